import PyProof.Rows.All
import Wide.All
import OpenK.AllK
import Wide.FinOn
import HandS.ForMost
import KE.KDictKeyed
import HandS.TupAny
import HandS.Wide
import HandS.IsInst
import HandS.Flow
import HandS.More
import HandS.Codes
import KE.KDictPairs
import HandS.Sort
import HandS.DictTup
import HandS.Walk
import PyProof.NeData
import KE.KStateDown
import Lean
import HandS.WordsExc
import HandS.Head0
import HandS.Head1
import HandS.Head2
import HandS.HeadEnd
import HandS.HeadHook1
import PySem.Challenge.RW_viewwood_k31_whole_trees_of_drawings
set_option Elab.async false
set_option linter.all false
set_option maxRecDepth 100000
/-! the text by places -/
namespace Vh
open PySem
def top (i : Nat) : Stmt := PySem.Challenge.pw_viewwood_k31_whole_trees_of_drawings.main.body.getD i (.Pass ⟨0, 0, 0, 0⟩)
end Vh

/-! data, heaps, dicts by paths -/
namespace Vw
open PySem PySem.Spec PyProof.Rows L2
abbrev Sl := L2.St

/-! ### plain data in tuples -/
inductive D where
  | non | bl (b : Bool) | int (i : Int) | str (x : Str) | tup (ds : List D)

mutual
inductive Dat (H : Hp) : V → D → Prop
  | non : Dat H .non .non
  | bl {b} : Dat H (.bl b) (.bl b)
  | int {i} : Dat H (.int i) (.int i)
  | str {x} : Dat H (.str x) (.str x)
  | tup {a xs ds} : Rd H a (.tup xs) → Dats H xs ds → Dat H (.ref a) (.tup ds)
inductive Dats (H : Hp) : List V → List D → Prop
  | nil : Dats H [] []
  | cons {x xs d ds} : Dat H x d → Dats H xs ds → Dats H (x :: xs) (d :: ds)
end

theorem Dats.len {H : Hp} : ∀ {xs : List V} {ds : List D}, Dats H xs ds → xs.length = ds.length
  | _, [], h => by cases h; rfl
  | _, _ :: _, h => by
    cases h with
    | cons _ t => rw [List.length_cons, List.length_cons, Dats.len t]
theorem Dats.at {H : Hp} : ∀ {xs : List V} {ds : List D} {i : Nat} {x : V}, Dats H xs ds → xs[i]? = some x → ∃ d, ds[i]? = some d ∧ Dat H x d
  | _, [], _, _, h, e => by cases h; simp at e
  | _, d :: ds, 0, x, h, e => by
    cases h with
    | cons p t => simp at e; subst e; exact ⟨d, rfl, p⟩
  | _, d :: ds, i + 1, x, h, e => by
    cases h with
    | cons p t => simp at e; exact Dats.at (i := i) t e
theorem Dats.at' {H : Hp} : ∀ {xs : List V} {ds : List D} {i : Nat} {d : D}, Dats H xs ds → ds[i]? = some d → ∃ x, xs[i]? = some x ∧ Dat H x d
  | _, [], _, _, h, e => by simp at e
  | _, d :: ds, 0, x, h, e => by
    cases h with
    | cons p t => simp at e; subst e; exact ⟨_, rfl, p⟩
  | _, d :: ds, i + 1, x, h, e => by
    cases h with
    | cons p t => simp at e; exact Dats.at' (i := i) t e
theorem Dats.append {H : Hp} : ∀ {xs ys : List V} {ds es : List D}, Dats H xs ds → Dats H ys es → Dats H (xs ++ ys) (ds ++ es)
  | _, _, [], _, h, k => by cases h; exact k
  | _, _, _ :: _, _, h, k => by
    cases h with
    | cons p t => exact .cons p (Dats.append t k)
theorem Dats.snoc {H : Hp} {xs : List V} {ds : List D} {x : V} {d : D} (h : Dats H xs ds) (p : Dat H x d) : Dats H (xs ++ [x]) (ds ++ [d]) := h.append (.cons p .nil)
theorem Dats.take {H : Hp} : ∀ {xs : List V} {ds : List D} (n : Nat), Dats H xs ds → Dats H (xs.take n) (ds.take n)
  | _, _, 0, _ => .nil
  | _, [], _ + 1, h => by cases h; exact .nil
  | _, _ :: _, n + 1, h => by
    cases h with
    | cons p t => exact .cons p (Dats.take n t)
theorem Dats.drop {H : Hp} : ∀ {xs : List V} {ds : List D} (n : Nat), Dats H xs ds → Dats H (xs.drop n) (ds.drop n)
  | _, _, 0, h => h
  | _, [], _ + 1, h => by cases h; exact .nil
  | _, _ :: _, n + 1, h => by
    cases h with
    | cons p t => exact Dats.drop n t
mutual
theorem Dat.mono {H H' : Hp} (ht : ∀ b xs, Rd H b (.tup xs) → Rd H' b (.tup xs)) : ∀ {v : V} {d : D}, Dat H v d → Dat H' v d
  | _, .non, h => by cases h; exact .non
  | _, .bl _, h => by cases h; exact .bl
  | _, .int _, h => by cases h; exact .int
  | _, .str _, h => by cases h; exact .str
  | _, .tup ds, h => by
    cases h with
    | tup e t => exact .tup (ht _ _ e) (Dats.mono ht t)
theorem Dats.mono {H H' : Hp} (ht : ∀ b xs, Rd H b (.tup xs) → Rd H' b (.tup xs)) : ∀ {xs : List V} {ds : List D}, Dats H xs ds → Dats H' xs ds
  | _, [], h => by cases h; exact .nil
  | _, _ :: _, h => by
    cases h with
    | cons p t => exact .cons (Dat.mono ht p) (Dats.mono ht t)
end
theorem rd_inj {H : Hp} {a : Addr} {xs ys : List V} (x : Rd H a (.tup xs)) (y : Rd H a (.tup ys)) : xs = ys := by
  rcases x with x | ⟨o, x⟩ <;> rcases y with y | ⟨o', y⟩ <;> rw [x] at y <;> cases y <;> rfl
mutual
theorem Dat.inj {H : Hp} : ∀ {v : V} {d e : D}, Dat H v d → Dat H v e → d = e
  | _, .non, _, h, k => by cases h; cases k; rfl
  | _, .bl _, _, h, k => by cases h; cases k; rfl
  | _, .int _, _, h, k => by cases h; cases k; rfl
  | _, .str _, _, h, k => by cases h; cases k; rfl
  | _, .tup ds, _, h, k => by
    cases h with
    | tup e t =>
      cases k with
      | tup e' t' =>
        cases rd_inj e e'
        rw [Dats.inj t t']
theorem Dats.inj {H : Hp} : ∀ {xs : List V} {ds es : List D}, Dats H xs ds → Dats H xs es → ds = es
  | _, [], _, h, k => by cases h; cases k; rfl
  | _, _ :: _, _, h, k => by
    cases h with
    | cons p t =>
      cases k with
      | cons p' t' => rw [Dat.inj p p', Dats.inj t t']
end
theorem Dats.strs {H : Hp} : ∀ xs : List Str, Dats H (xs.map V.str) (xs.map D.str)
  | [] => .nil
  | _ :: r => .cons .str (Dats.strs r)
theorem Dat.tup_inv {H : Hp} {v : V} {ds : List D} (h : Dat H v (.tup ds)) : ∃ a xs, v = .ref a ∧ Rd H a (.tup xs) ∧ Dats H xs ds := by
  cases h with
  | tup e t => exact ⟨_, _, rfl, e, t⟩
theorem Dats.cons_inv {H : Hp} {xs : List V} {d : D} {ds : List D} (h : Dats H xs (d :: ds)) : ∃ y ys, xs = y :: ys ∧ Dat H y d ∧ Dats H ys ds := by
  cases h with
  | cons p t => exact ⟨_, _, rfl, p, t⟩
theorem Dats.nil_inv {H : Hp} {xs : List V} (h : Dats H xs []) : xs = [] := by cases h; rfl
theorem Dat.str_inv {H : Hp} {v : V} {x : Str} (h : Dat H v (.str x)) : v = .str x := by cases h; rfl
theorem Dat.int_inv {H : Hp} {v : V} {x : Int} (h : Dat H v (.int x)) : v = .int x := by cases h; rfl
theorem Dat.bl_inv {H : Hp} {v : V} {x : Bool} (h : Dat H v (.bl x)) : v = .bl x := by cases h; rfl
theorem Dat.non_inv {H : Hp} {v : V} (h : Dat H v .non) : v = .non := by cases h; rfl

/-! ### what stays of a heap -/
/-- all that was tracked is as it was, but at ms; tuples stay; nothing is forgotten -/
structure Kp (ms : List Addr) (H H' : Hp) : Prop where
  all : ∀ b o, b ∉ ms → H b = some o → H' b = some o
  tup : ∀ b xs, Rd H b (.tup xs) → Rd H' b (.tup xs)
  frz : ∀ b o u, H b = some (.frz o u) → H' b = some (.frz o u)
  frs : ∀ b, H' b = none → H b = none
section
variable {ms ms' : List Addr} {H H1 H2 H' : Hp} {a b p : Addr} {o u : HO}
theorem Same.rd (x : Same H H') {u : HO} (h : Rd H b u) : Rd H' b u := by
  rcases h with h | ⟨o, h⟩
  · exact .inl (x _ _ h)
  · exact .inr ⟨o, x _ _ h⟩
theorem Kp.refl : Kp ms H H := ⟨fun _ _ _ h => h, fun _ _ h => h, fun _ _ _ h => h, fun _ h => h⟩
theorem Kp.trans (x : Kp ms H H1) (y : Kp ms H1 H2) : Kp ms H H2 :=
  ⟨fun b o n h => y.all b o n (x.all b o n h), fun b xs h => y.tup b xs (x.tup b xs h), fun b o xs h => y.frz b o xs (x.frz b o xs h), fun b h => x.frs b (y.frs b h)⟩
theorem Kp.sub (x : Kp ms H H1) (h : ∀ b ∈ ms, b ∈ ms') : Kp ms' H H1 := ⟨fun b o n e => x.all b o (fun z => n (h b z)) e, x.tup, x.frz, x.frs⟩
theorem Kp.same (x : Same H H') : Kp ms H H' := ⟨fun b o _ h => x b o h, fun b xs h => Same.rd x h, fun b o xs h => x b _ h, fun _ h => x.free h⟩
theorem Kp.toSame (x : Kp [] H H') : Same H H' := fun b o h => x.all b o (by simp) h
theorem Kp.new (h : H p = none) : Kp ms H (upd H p o) := .same fun b u e => by rw [upd_ne (ne_of_none e h)]; exact e
theorem Kp.put (hm : p ∈ ms) (h : H p = some u) (ht : ∀ xs, u ≠ .tup xs) (hf : ∀ o v, u ≠ .frz o v) : Kp ms H (upd H p o) where
  all := fun b w n e => by rw [upd_ne (fun z => n (by rw [z]; exact hm))]; exact e
  tup := fun b xs e => by
    rcases e with e | ⟨w, e⟩
    · exact .inl (by rw [upd_ne (ne_of e h (fun z => ht _ z.symm))]; exact e)
    · exact .inr ⟨w, by rw [upd_ne (ne_of e h (fun z => hf _ _ z.symm))]; exact e⟩
  frz := fun b w xs e => by rw [upd_ne (ne_of e h (fun z => hf _ _ z.symm))]; exact e
  frs := fun b e => by
    by_cases q : b = p
    · subst q; rw [upd_same] at e; cases e
    · rw [upd_ne q] at e; exact e
/-- what was not there needs no mention -/
theorem Kp.drop (x : Kp ms H H') (h : ∀ b ∈ ms, b ∈ ms' ∨ H b = none) : Kp ms' H H' :=
  ⟨fun b o n e => x.all b o (fun z => by
    rcases h b z with q | q
    · exact n q
    · rw [q] at e; cases e) e, x.tup, x.frz, x.frs⟩
theorem Kp.nil (x : Kp ms H H') (h : ∀ b ∈ ms, H b = none) : Same H H' := (x.drop (ms' := []) fun b m => .inr (h b m)).toSame
theorem Kp.dat (x : Kp ms H H') {v : V} {d : D} (h : Dat H v d) : Dat H' v d := h.mono x.tup
theorem Kp.dats (x : Kp ms H H') {v : List V} {d : List D} (h : Dats H v d) : Dats H' v d := h.mono x.tup
theorem Kp.at1 (x : Kp [a] H H') (h : b ≠ a) (e : H b = some o) : H' b = some o := x.all b o (by simpa using h) e
theorem Kp.seq (x : Kp ms H H') {K : PySem.W.Frag} {xs : List V} (n : a ∉ ms) (h : SqL K H a xs) : SqL K H' a xs := by
  rcases h with (h | ⟨o, h⟩) | h
  · exact .inl (.inl (x.all _ _ n h))
  · exact .inl (.inr ⟨o, x.all _ _ n h⟩)
  · exact .inr h
end
theorem same_new {H : Hp} {p : Addr} (h : H p = none) (o : HO) : Same H (upd H p o) := fun b u q => by rw [upd_ne (ne_of_none q h)]; exact q
theorem Same.dat {H H' : Hp} (x : Same H H') {v : V} {d : D} (h : Dat H v d) : Dat H' v d := h.mono fun b xs e => Same.rd x e
theorem Same.dats {H H' : Hp} (x : Same H H') {v : List V} {d : List D} (h : Dats H v d) : Dats H' v d := h.mono fun b xs e => Same.rd x e
/-- a new tuple of data -/
theorem Dat.made {H : Hp} {p : Addr} {xs : List V} {ds : List D} (h : H p = none) (x : Dats H xs ds) : Dat (upd H p (.tup xs)) (.ref p) (.tup ds) := .tup (.inl upd_same) (Same.dats (same_new h _) x)

/-! ### keys -/
mutual
def nkD : NestedKey → D
  | .none => .non
  | .num i => .int i
  | .text x => .str x
  | .tup ks => .tup (nkDs ks)
def nkDs : List NestedKey → List D
  | [] => []
  | k :: ks => nkD k :: nkDs ks
end
abbrev Spot := Option Int × Int
def keyD : Option Int → D
  | none => .non
  | some i => .int i
def spotD (s : Spot) : D := .tup [keyD s.1, .int s.2]
def pathD (p : List Spot) : D := .tup (p.map spotD)
def keyK : Option Int → NestedKey
  | none => .none
  | some i => .num i
def spotK (s : Spot) : NestedKey := .tup [keyK s.1, .num s.2]
def pathK (p : List Spot) : NestedKey := .tup (p.map spotK)
theorem nkD_key (k : Option Int) : nkD (keyK k) = keyD k := by cases k <;> simp [keyK, keyD, nkD]
theorem nkD_spot (s : Spot) : nkD (spotK s) = spotD s := by simp [spotK, spotD, nkD, nkDs, nkD_key]
theorem nkDs_map : ∀ p : List Spot, nkDs (p.map spotK) = p.map spotD
  | [] => by simp [nkDs]
  | s :: r => by simp [nkDs, nkD_spot, nkDs_map r]
theorem nkD_path (p : List Spot) : nkD (pathK p) = pathD p := by simp [pathK, pathD, nkD, nkDs_map]
theorem keyK_inj {a b : Option Int} (h : keyK a = keyK b) : a = b := by
  cases a <;> cases b <;> simp [keyK] at h <;> first | rfl | (rw [h])
theorem spotK_inj {a b : Spot} (h : spotK a = spotK b) : a = b := by
  obtain ⟨a1, a2⟩ := a
  obtain ⟨b1, b2⟩ := b
  simp only [spotK, NestedKey.tup.injEq, List.cons.injEq, NestedKey.num.injEq, and_true] at h
  rw [keyK_inj h.1, h.2]
theorem spotKs_inj : ∀ {a b : List Spot}, a.map spotK = b.map spotK → a = b
  | [], [], _ => rfl
  | [], _ :: _, h => by simp at h
  | _ :: _, [], h => by simp at h
  | x :: r, y :: t, h => by
    rw [List.map_cons, List.map_cons, List.cons.injEq] at h
    rw [spotK_inj h.1, spotKs_inj h.2]
theorem pathK_inj {a b : List Spot} (h : pathK a = pathK b) : a = b := spotKs_inj (NestedKey.tup.inj h)
theorem depth_key (k : Option Int) : (keyK k).depth = 0 := by cases k <;> simp [keyK, NestedKey.depth]
theorem depth_spot (s : Spot) : (spotK s).depth = 1 := by simp [spotK, NestedKey.depth, NestedKey.depthAll, depth_key]
theorem depth_spots : ∀ p : List Spot, NestedKey.depthAll (p.map spotK) ≤ 1
  | [] => by simp [NestedKey.depthAll]
  | s :: r => by
    have := depth_spots r
    have := depth_spot s
    simp only [List.map_cons, NestedKey.depthAll]
    omega
theorem depth_path (p : List Spot) : (pathK p).depth ≤ 8 := by
  have := depth_spots p
  simp only [pathK, NestedKey.depth]
  omega
theorem spotD_inj {a b : Spot} (h : spotD a = spotD b) : a = b := by
  obtain ⟨a1, a2⟩ := a
  obtain ⟨b1, b2⟩ := b
  simp only [spotD, D.tup.injEq, List.cons.injEq, D.int.injEq, and_true] at h
  have : a1 = b1 := by cases a1 <;> cases b1 <;> simp [keyD] at h <;> first | rfl | rw [h.1]
  rw [this, h.2]

/-- the value at b is the key k -/
def NK (H : Hp) (b : Addr) (k : NestedKey) : Prop := Dat H (.ref b) (nkD k) ∧ k.depth ≤ 8
theorem NK.path {H : Hp} {v : V} {p : List Spot} (h : Dat H v (pathD p)) : ∃ b, v = .ref b ∧ NK H b (pathK p) := by
  obtain ⟨a, xs, rfl, e, t⟩ := Dat.tup_inv h
  exact ⟨a, rfl, by rw [nkD_path]; exact .tup e t, depth_path p⟩
theorem NK.mono {H H' : Hp} (ht : ∀ b xs, Rd H b (.tup xs) → Rd H' b (.tup xs)) {b : Addr} {k : NestedKey} (h : NK H b k) : NK H' b k := ⟨h.1.mono ht, h.2⟩
section
variable {P : Program} {w : World} {H : Hp} {h : Heap}
mutual
theorem nested_of (ok : HOk P w H h) : ∀ (k : NestedKey) (v : V) (u : Value), RelV v u → Dat H v (nkD k) → NestedIs h k u
  | .none, v, u, r, d => by
    simp only [nkD] at d
    cases d; cases r; exact .none
  | .num i, v, u, r, d => by
    simp only [nkD] at d
    cases d; obtain ⟨t, rfl⟩ := r; exact .int _ _
  | .text x, v, u, r, d => by
    simp only [nkD] at d
    cases d; obtain ⟨t, rfl⟩ := r; exact .text _ _
  | .tup ks, v, u, r, d => by
    simp only [nkD] at d
    cases d with
    | tup e ds =>
      cases r
      obtain ⟨_, its, rv, o, h1, h2, n, h3⟩ := e.ok ok
      exact .tup h1 h2 h3 (by simpa using nested_all ok ks _ _ rv ds)
theorem nested_all (ok : HOk P w H h) : ∀ (ks : List NestedKey) (vs : List V) (us : List Value), Vals vs us → Dats H vs (nkDs ks) → NestedAll h ks us
  | [], vs, us, r, d => by
    simp only [nkDs] at d
    cases d; cases r; exact .nil
  | k :: ks, vs, us, r, d => by
    simp only [nkDs] at d
    cases d with
    | cons p t =>
      cases r with
      | cons r rr => exact .cons (nested_of ok k _ _ r p) (nested_all ok ks _ _ rr t)
end
theorem NK.is (ok : HOk P w H h) {b : Addr} {k : NestedKey} (x : NK H b k) : (nestedKind P w).is h k b := ⟨nested_of ok k (.ref b) _ rfl x.1, x.2⟩
end

/-! ### a dict whose keys are such -/
def ndF (P : Program) (w : World) (a : Addr) (xs : List (NestedKey × Addr × Value)) : Heap → Prop := fun h => (a == sysModules) = false ∧ ∃ o es ep, h.get? a = some o ∧ o.ExactDict ∧ o.data = .dict es ep ∧ es.toList = xs.map (entryOfKey (nestedKind P w))
theorem nd_ok {P : Program} {w : World} {H : Hp} {h : Heap} {a : Addr} {xs : List (NestedKey × Addr × Value)} (x : ndF P w a xs h) : ObjOk P w H h a (.ext (ndF P w a xs)) := by
  obtain ⟨hd, o, es, ep, h1, h2⟩ := id x
  refine ⟨x, ⟨o, h1⟩, fun g1 g2 y k => ?_⟩
  obtain ⟨hd, o, es, ep, h1, h2⟩ := y
  exact ⟨hd, o, es, ep, k _ h1, h2⟩
/-- the raw entries xs: their keys stand in H, their values are those of kvs -/
def KN (H : Hp) (kvs : List (NestedKey × V)) (xs : List (NestedKey × Addr × Value)) : Prop := KV kvs (pairsH xs) ∧ ∀ x ∈ xs, NK H x.2.1 x.1
def ND (P : Program) (w : World) (H : Hp) (a : Addr) (kvs : List (NestedKey × V)) : Prop := ∃ xs, H a = some (.ext (ndF P w a xs)) ∧ kvs.length ≤ sizeLine ∧ KN H kvs xs ∧ (xs.map (·.1)).Nodup
theorem KN.mono {H H' : Hp} (ht : ∀ b xs, Rd H b (.tup xs) → Rd H' b (.tup xs)) {kvs : List (NestedKey × V)} {xs : List (NestedKey × Addr × Value)} (r : KN H kvs xs) : KN H' kvs xs :=
  ⟨r.1, fun x m => (r.2 x m).mono ht⟩
theorem ND.kp {P : Program} {w : World} {ms : List Addr} {H H' : Hp} {a : Addr} {kvs : List (NestedKey × V)} (h : ND P w H a kvs) (k : Kp ms H H') (n : a ∉ ms) : ND P w H' a kvs := by
  obtain ⟨xs, e, z, r, d⟩ := h
  exact ⟨xs, k.all _ _ n e, z, r.mono k.tup, d⟩
theorem ND.ns {P : Program} {w : World} {H : Hp} {a : Addr} {kvs : List (NestedKey × V)} (h : ND P w H a kvs) : ∃ φ, H a = some (.ext φ) := by
  obtain ⟨xs, e, _⟩ := h
  exact ⟨_, e⟩
theorem KN.len {H : Hp} {kvs : List (NestedKey × V)} {xs : List (NestedKey × Addr × Value)} (r : KN H kvs xs) : xs.length = kvs.length := by
  rw [r.1.length, pairsH_length]
theorem KN.val {H : Hp} {kvs : List (NestedKey × V)} {xs : List (NestedKey × Addr × Value)} (r : KN H kvs xs) (k : NestedKey) : RelO (valV kvs k) ((atKey xs k).map (·.2)) := by
  rw [← valueAt_pairsH]
  exact r.1.val k
theorem mem_storedH {K : Type} [DecidableEq K] {xs : List (K × Addr × Value)} {k : K} {b : Addr} {u : Value} {y : K × Addr × Value} (h : y ∈ storedH xs k b u) : (y.1 = k ∧ y.2.1 = b) ∨ ∃ x ∈ xs, x.1 = y.1 ∧ x.2.1 = y.2.1 := by
  unfold storedH at h
  split at h
  · obtain ⟨x, hx, rfl⟩ := List.mem_map.mp h
    refine .inr ⟨x, hx, ?_⟩
    unfold putAt
    split <;> exact ⟨rfl, rfl⟩
  · rcases List.mem_append.mp h with m | m
    · exact .inr ⟨y, m, rfl, rfl⟩
    · rw [List.mem_singleton.mp m]
      exact .inl ⟨rfl, rfl⟩
theorem KN.put {H : Hp} {kvs : List (NestedKey × V)} {xs : List (NestedKey × Addr × Value)} (r : KN H kvs xs) (k : NestedKey) {b : Addr} {y : V} {u : Value} (hb : NK H b k) (ry : RelV y u) :
    KN H (putK kvs k y) (storedH xs k b u) := by
  refine ⟨?_, fun z m => ?_⟩
  · rw [pairsH_storedH]
    exact r.1.put k ry
  · rcases mem_storedH m with ⟨e1, e2⟩ | ⟨x, hx, e1, e2⟩
    · rw [e1, e2]; exact hb
    · rw [← e1, ← e2]; exact r.2 x hx
theorem nd_rd {P : Program} {w : World} {H : Hp} {h : Heap} {a : Addr} {kvs : List (NestedKey × V)} (ok : HOk P w H h) (e : ND P w H a kvs) : kvs.length ≤ sizeLine ∧ (a == sysModules) = false ∧
    ∃ xs, H a = some (.ext (ndF P w a xs)) ∧ KN H kvs xs ∧ h.DictOfH (nestedKind P w) a xs := by
  obtain ⟨xs, e, z, r, nd⟩ := e
  obtain ⟨⟨hd, o, es, ep, h1, h2, h3, h4⟩, _⟩ := ok _ _ e
  exact ⟨z, hd, xs, e, r, o, es, ep, h1, h2, h3, h4, fun x hx => NK.is ok (r.2 x hx), nd⟩

/-! rules -/
section
variable {X : Cx} {pins : List (Addr × Obj)} {σ : Sl} {H : Hp} {s : Shared} {a b : Addr} {y v : V} {u r : Value} {kvs : List (NestedKey × V)} {k : NestedKey} {A : Around} {E : Value → Shared → Prop}
theorem nk_room (hu : A.units + 10 < cLine) {P : Program} {w : World} : (nestedKind P w).room A.in1 := by
  show A.units + 1 + 8 < cLine
  omega
theorem n_getItem {Q : Value → Shared → Prop} (hu : A.units + 10 < cLine) (I : Inv X pins σ H s) (g : ND X.prog X.w H a kvs) (hb : NK H b k) (l : valV kvs k = some v) (h : ∀ w' s', Inv X pins σ H s' → RelV v w' → Q w' s') :
    wpAny (model X.prog X.w) A (getItem (.ref a) (.ref b)) Q E s := by
  obtain ⟨z, hd, xs, _, rel, dd⟩ := nd_rd I.hok g
  obtain ⟨w', hw, rw'⟩ := RelO.some_of (v := v) (o := (atKey xs k).map (·.2)) (by rw [← l]; exact rel.val k)
  obtain ⟨p, hp, hp2⟩ := Option.map_eq_some_iff.mp hw
  refine wpAny_getItem_heap (nk_room hu) (hb.is I.hok) dd hp ?_
  rw [hp2]
  exact h w' _ (I.tok _) rw'
theorem n_in {Q : Value → Shared → Prop} (hu : A.units + 10 < cLine) (I : Inv X pins σ H s) (g : ND X.prog X.w H a kvs) (hb : NK H b k) (h : ∀ s', Inv X pins σ H s' → Q (.bool (valV kvs k).isSome) s') :
    wpAny (model X.prog X.w) A (compareOp .In (.ref b) (.ref a)) Q E s := by
  obtain ⟨z, hd, xs, _, rel, dd⟩ := nd_rd I.hok g
  refine wpAny_in_heap (nk_room hu) (hb.is I.hok) hd dd ?_
  have q := (rel.val k).isSome_eq
  rw [Option.isSome_map] at q
  rw [← q]
  exact h _ (I.tok _)
theorem n_setItem {Q : Unit → Shared → Prop} (hu : A.units + 10 < cLine) (I : Inv X pins σ H s) (g : ND X.prog X.w H a kvs) (hb : NK H b k) (rv : RelV v r) (hl : kvs.length < sizeLine)
    (h : ∀ H' s', Kp [a] H H' → ND X.prog X.w H' a (putK kvs k v) → Inv X pins σ H' s' → Q () s') : wpAny (model X.prog X.w) A (setItem (.ref a) (.ref b) r) Q E s := by
  obtain ⟨z, hd, xs, e, rel, dd⟩ := nd_rd I.hok g
  have hz : xs.length ≤ sizeLine := by rw [rel.len]; exact z
  have hl' : (putK kvs k v).length ≤ sizeLine := by have := length_putK kvs k v; omega
  refine wpAny_setItem_heap (hsz := hz) (nk_room hu) (hb.is I.hok) dd fun h' dd' hs => ?_
  obtain ⟨q, es, ep, hq, h2, h3, h4, _, h5⟩ := dd'
  have kp : Kp [a] H (upd H a (.ext (ndF X.prog X.w a (storedH xs k b r)))) := .put (by simp) e (fun xs z => nomatch z) (fun o xs z => nomatch z)
  refine h (upd H a (.ext (ndF X.prog X.w a (storedH xs k b r)))) _ kp ⟨_, upd_same, hl', (rel.put k hb rv).mono kp.tup, h5⟩ ?_
  exact d_write (t' := s.toks + (nestedKind X.prog X.w).draws k) I (by rw [e]; exact True.intro) hs ⟨q, hq⟩ (nd_ok ⟨hd, q, es, ep, hq, h2, h3, h4⟩)
theorem nd_typeIs (I : Inv X pins σ H s) (g : ND X.prog X.w H a kvs) : s.TypeIs (.ref a) "dict" := by
  obtain ⟨z, hd, xs, _, rel, dd⟩ := nd_rd I.hok g
  exact dd.typeIs
end
/-- {} -/
def tNNew (P : Program) (w : World) : TE := fun _ H Q => ∀ p H', H p = none → Kp [p] H H' → ND P w H' p [] → Q (.ref p) H'
/-- d[k] -/
def tNGet (P : Program) (w : World) (td ty : TE) : TE := fun σ H Q => td σ H fun x H1 => ty σ H1 fun y H2 => ∃ a b kvs k v, x = .ref a ∧ y = .ref b ∧ ND P w H2 a kvs ∧ NK H2 b k ∧ valV kvs k = some v ∧ Q v H2
/-- k in d -/
def tNIn (P : Program) (w : World) (ty td : TE) : TE := fun σ H Q => ty σ H fun y H1 => td σ H1 fun x H2 => ∃ a b kvs k, x = .ref a ∧ y = .ref b ∧ ND P w H2 a kvs ∧ NK H2 b k ∧ Q (.bl (valV kvs k).isSome) H2
/-- d[k] = v -/
def sNPut (P : Program) (w : World) (td ty tv : TE) : TS := fun Dn σ H => tv σ H fun v H1 => td σ H1 fun x H2 => ty σ H2 fun y H3 => ∃ a b kvs k, x = .ref a ∧ y = .ref b ∧ ND P w H3 a kvs ∧ NK H3 b k ∧ kvs.length < sizeLine ∧
  ∀ H4, Kp [a] H3 H4 → ND P w H4 a (putK kvs k v) → Dn.nx σ H4
section
variable {X : Cx} {o i value : Expr} {pos pos' : Pos} {td ty tv : TE}
theorem pe_nnew : PE X (.Dict [] [] pos) (tNNew X.prog X.w) := ⟨fun pins s σ H Q I h => by
  have hn := I.hok.fresh (Nat.le_refl s.heap.objs.size)
  have hx : ndF X.prog X.w s.heap.objs.size [] (s.heap.push { cls := .type "dict", data := .dict #[] }) := ⟨beq_eq_false_iff_ne.mpr (Ne.symm (Nat.ne_of_lt I.big)), _, #[], 0, Heap.get?_push_size _ rfl, ⟨rfl, rfl, rfl⟩, rfl, rfl⟩
  refine wpAny_Dict_empty ⟨.ref s.heap.objs.size, _, I.laid (a := s.heap.objs.size) (o := .ext (ndF X.prog X.w s.heap.objs.size [])) (t' := s.toks) (fun _ _ q => Heap.get?_push_of_some _ q) (Nat.le_refl _) (nd_ok hx), rfl, h _ _ hn (.new hn) ⟨[], upd_same, Nat.zero_le _, ⟨.nil, fun x m => nomatch m⟩, List.nodup_nil⟩⟩⟩
theorem pe_nget (hu : X.A.units + 10 < cLine) (ho : PE X o td) (hi : PE X i ty) (hs : NoSl i) : PE X (.Subscript o i pos) (tNGet X.prog X.w td ty) := by
  refine ⟨fun pins s σ H Q I h => ?_⟩
  refine subD_of PySem.F.slot_dict_getitem.lookup hs (thn (ho.run pins s σ H _ I h) fun u s1 ⟨x, H1, I1, rx, q1⟩ => thn (hi.run pins s1 σ H1 _ I1 q1) fun iv s2 ⟨y, H2, I2, ry, a, b, kvs, k, v, ex, ey, g, hb, l, q2⟩ => ?_)
  subst ex ey
  obtain rfl : u = Value.ref a := rx
  obtain rfl : iv = Value.ref b := ry
  exact ⟨nd_typeIs I2 g, n_getItem hu I2 g hb l fun w' s3 I3 rw' => ⟨v, H2, I3, rw', q2⟩⟩
theorem pc_nin (hu : X.A.units + 10 < cLine) (hi : PE X i ty) (ho : PE X o td) : PC X .In i o (tNIn X.prog X.w ty td) := by
  refine ⟨fun pins s σ H Q I h => ?_⟩
  refine thn (hi.run pins s σ H _ I h) fun iv s1 ⟨y, H1, I1, ry, q1⟩ => thn (ho.run pins s1 σ H1 _ I1 q1) fun u s2 ⟨x, H2, I2, rx, a, b, kvs, k, ex, ey, g, hb, q2⟩ => ?_
  subst ex ey
  obtain rfl : u = Value.ref a := rx
  obtain rfl : iv = Value.ref b := ry
  exact n_in hu I2 g hb fun s3 I3 => ⟨.bl _, H2, I3, rfl, q2⟩
theorem ps_nput (hu : X.A.units + 10 < cLine) (ho : PE X o td) (hi : PE X i ty) (hv : PE X value tv) (hs : swapsWith value (some (.Subscript o i pos')) pos.line X.env = pure false) :
    PS X (.Assign [.Subscript o i pos'] value pos) (sNPut X.prog X.w td ty tv) := by
  refine ⟨fun pins s σ H D I h => ?_⟩
  refine wpAny_Assign_Subscript (thn (hv.run pins s σ H _ I h) fun r s1 ⟨v, H1, I1, rv, q1⟩ => thn (ho.run pins s1 σ H1 _ I1 q1) fun u s2 ⟨x, H2, I2, rx, q2⟩ => thn (hi.run pins s2 σ H2 _ I2 q2) fun iv s3 ⟨y, H3, I3, ry, a, b, kvs, k, ex, ey, g, hb, hl, q3⟩ => ?_) hs
  subst ex ey
  obtain rfl : u = Value.ref a := rx
  obtain rfl : iv = Value.ref b := ry
  exact n_setItem hu I3 g hb rv hl fun H4 s4 kp g' I4 => ⟨σ, H4, I4, q3 H4 kp g'⟩
end

/-! ### a dict whose keys are None and ints -/
def lV : Option Int → V
  | none => .non
  | some i => .int i
def lK : Option Int → Leaf
  | none => .none
  | some i => .num i
theorem lK_inj {a b : Option Int} (h : lK a = lK b) : a = b := by
  cases a <;> cases b <;> simp [lK] at h <;> first | rfl | (rw [h])
theorem lV_is {P : Program} {w : World} {k : Option Int} {u : Value} (r : RelV (lV k) u) : (leafKind P w).is (lK k) u = true := by
  cases k with
  | none => cases (show u = Value.none from r); rfl
  | some i => obtain ⟨t, rfl⟩ := (show ∃ t, u = Value.int i t from r); exact decide_eq_true rfl
theorem lV_dat {H : Hp} (k : Option Int) : Dat H (lV k) (keyD k) := by cases k <;> constructor
def ldF (P : Program) (w : World) (a : Addr) (kvs : List (Leaf × V)) : Heap → Prop := fun h => (a == sysModules) = false ∧ ∃ vs, KV kvs vs ∧ h.DictOf (leafKind P w) a vs
theorem ld_ok {P : Program} {w : World} {H : Hp} {h : Heap} {a : Addr} {kvs : List (Leaf × V)} (x : ldF P w a kvs h) : ObjOk P w H h a (.ext (ldF P w a kvs)) := by
  obtain ⟨hd, vs, r, dd⟩ := id x
  have he : ∃ q, h.get? a = some q := let ⟨q, _, _, hq, _⟩ := dd; ⟨q, hq⟩
  refine ⟨x, he, fun g1 g2 y k => ?_⟩
  obtain ⟨hd, vs, r, dd⟩ := y
  exact ⟨hd, vs, r, dd.at fun o e => k o e⟩
def LD (P : Program) (w : World) (H : Hp) (a : Addr) (kvs : List (Leaf × V)) : Prop := H a = some (.ext (ldF P w a kvs)) ∧ kvs.length ≤ sizeLine
theorem ld_rd {P : Program} {w : World} {H : Hp} {h : Heap} {a : Addr} {kvs : List (Leaf × V)} (ok : HOk P w H h) (e : LD P w H a kvs) : kvs.length ≤ sizeLine ∧ (a == sysModules) = false ∧ ∃ vs, KV kvs vs ∧ h.DictOf (leafKind P w) a vs := by
  obtain ⟨⟨hd, vs, r, dd⟩, _⟩ := ok _ _ e.1
  exact ⟨e.2, hd, vs, r, dd⟩
def tLNew (P : Program) (w : World) : TE := fun _ H Q => ∀ p H', H p = none → Kp [p] H H' → LD P w H' p [] → Q (.ref p) H'
def tLGet2 (P : Program) (w : World) (td ty tx : TE) : TE := fun σ H Q => td σ H fun x H1 => ∃ a, x = .ref a ∧ (∃ kvs, LD P w H1 a kvs) ∧ ty σ H1 fun y H2 => tx σ H2 fun z H3 => ∃ kvs k, LD P w H3 a kvs ∧ y = lV k ∧ Q ((valV kvs (lK k)).getD z) H3
def sLPut (P : Program) (w : World) (td ty tv : TE) : TS := fun Dn σ H => tv σ H fun v H1 => td σ H1 fun x H2 => ty σ H2 fun y H3 => ∃ a kvs k, x = .ref a ∧ LD P w H3 a kvs ∧ y = lV k ∧ kvs.length < sizeLine ∧
  ∀ H4, Kp [a] H3 H4 → LD P w H4 a (putK kvs (lK k) v) → Dn.nx σ H4
def tLGet (P : Program) (w : World) (td ty : TE) : TE := fun σ H Q => td σ H fun x H1 => ty σ H1 fun y H2 => ∃ a kvs k v, x = .ref a ∧ LD P w H2 a kvs ∧ y = lV k ∧ valV kvs (lK k) = some v ∧ Q v H2
section
variable {X : Cx} {o e f i value : Expr} {pos pos' apos cpos : Pos} {td ty tv tx : TE}
theorem pe_lnew : PE X (.Dict [] [] pos) (tLNew X.prog X.w) := ⟨fun pins s σ H Q I h => by
  have hn := I.hok.fresh (Nat.le_refl s.heap.objs.size)
  have hx : ldF X.prog X.w s.heap.objs.size [] (s.heap.push { cls := .type "dict", data := .dict #[] }) := ⟨beq_eq_false_iff_ne.mpr (Ne.symm (Nat.ne_of_lt I.big)), [], .nil, Heap.DictOf.new s.heap⟩
  refine wpAny_Dict_empty ⟨.ref s.heap.objs.size, _, I.laid (a := s.heap.objs.size) (o := .ext (ldF X.prog X.w s.heap.objs.size [])) (t' := s.toks) (fun _ _ q => Heap.get?_push_of_some _ q) (Nat.le_refl _) (ld_ok hx), rfl, h _ _ hn (.new hn) ⟨upd_same, Nat.zero_le _⟩⟩⟩
theorem pe_lget2 (ho : PE X o td) (he : PE X e ty) (hf : PE X f tx) (m : M2 X o "get" apos e f cpos) : PE X (.Call (.Attribute o "get" apos) [e, f] [] cpos) (tLGet2 X.prog X.w td ty tx) := by
  refine ⟨fun pins s σ H Q I h => ?_⟩
  refine wpAny_Call_method m.base m.few m.line PySem.F.plainAttrs_dict PySem.F.slot_dict_get PySem.F.type_dict_get (thn (ho.run pins s σ H _ I h) fun u s1 ⟨x, H1, I1, rx, a, ex, ⟨kv0, d⟩, q1⟩ => ?_)
  subst ex
  obtain rfl : u = Value.ref a := rx
  obtain ⟨_, hd, vs, _, dd⟩ := ld_rd I1.hok d
  refine ⟨dd.typeIs, fun b q => ?_, ?_⟩
  · cases q
    obtain ⟨ob, _, _, h1, h2, _⟩ := dd
    exact ⟨ob, h1, h2.2.1⟩
  rw [m.trees]
  refine Calls.callWith_builtin rfl (Calls.evalArgs_plain (Calls.spliced_cons (thn (he.run pins s1 σ H1 _ I1 q1) fun iv s2 ⟨y, H2, I2, ry, q2⟩ =>
    Calls.spliced_cons (thn (hf.run pins s2 σ H2 _ I2 q2) fun fv s3 ⟨z, H3, I3, rz, kvs, k, g, ey, q3⟩ => Calls.spliced_nil ?_))))
  subst ey
  obtain ⟨_, hd, vs, rel, dd⟩ := ld_rd I3.hok g
  refine call_meetsIn PySem.F.slot_dict_get dd.typeIs PySem.F.entry_dict_get (PySem.F.args_dict_get_3 _ _ _) (meets_dict_get_default (leafKind X.prog X.w) a (lV_is ry) hd fv) ⟨_, dd.mapOf, ?_⟩
  exact ⟨_, H3, I3.tok _, (rel.val (lK k)).getD rz, q3⟩
theorem ps_lput (ho : PE X o td) (hi : PE X i ty) (hv : PE X value tv) (hs : swapsWith value (some (.Subscript o i pos')) pos.line X.env = pure false) :
    PS X (.Assign [.Subscript o i pos'] value pos) (sLPut X.prog X.w td ty tv) := by
  refine ⟨fun pins s σ H D I h => ?_⟩
  refine wpAny_Assign_Subscript (thn (hv.run pins s σ H _ I h) fun r s1 ⟨v, H1, I1, rv, q1⟩ => thn (ho.run pins s1 σ H1 _ I1 q1) fun u s2 ⟨x, H2, I2, rx, q2⟩ => thn (hi.run pins s2 σ H2 _ I2 q2) fun iv s3 ⟨y, H3, I3, ry, a, kvs, k, ex, g, ey, hl, q3⟩ => ?_) hs
  subst ex ey
  obtain rfl : u = Value.ref a := rx
  obtain ⟨z, hd, vs, rel, dd⟩ := ld_rd I3.hok g
  have hz : vs.length ≤ sizeLine := by rw [← rel.length]; exact z
  have hl' : (putK kvs (lK k) v).length ≤ sizeLine := by have := length_putK kvs (lK k) v; omega
  refine wpAny_setItem_pairs (hsz := hz) (lV_is ry) dd fun h' dd' hs => ?_
  have he : ∃ q, h'.get? a = some q := let ⟨q, _, _, hq, _⟩ := dd'; ⟨q, hq⟩
  have kp : Kp [a] H3 (upd H3 a (.ext (ldF X.prog X.w a (putK kvs (lK k) v)))) := .put (by simp) g.1 (fun xs z => nomatch z) (fun o xs z => nomatch z)
  exact ⟨σ, upd H3 a (.ext (ldF X.prog X.w a (putK kvs (lK k) v))), d_write I3 (by rw [g.1]; exact True.intro) hs he (ld_ok ⟨hd, _, rel.put (lK k) rv, dd'⟩), q3 _ kp ⟨upd_same, hl'⟩⟩
theorem pe_lget (ho : PE X o td) (hi : PE X i ty) (hs : NoSl i) : PE X (.Subscript o i pos) (tLGet X.prog X.w td ty) := by
  refine ⟨fun pins s σ H Q I h => ?_⟩
  refine subD_of PySem.F.slot_dict_getitem.lookup hs (thn (ho.run pins s σ H _ I h) fun u s1 ⟨x, H1, I1, rx, q1⟩ => thn (hi.run pins s1 σ H1 _ I1 q1) fun iv s2 ⟨y, H2, I2, ry, a, kvs, k, v, ex, g, ey, l, q2⟩ => ?_)
  subst ex ey
  obtain rfl : u = Value.ref a := rx
  obtain ⟨z, hd, vs, rel, dd⟩ := ld_rd I2.hok g
  refine ⟨dd.typeIs, ?_⟩
  obtain ⟨w', hw, rw'⟩ := RelO.some_of (v := v) (o := valueAt vs (lK k)) (by rw [← l]; exact rel.val (lK k))
  exact wpAny_getItem_of (lV_is ry) dd.mapOf hw ⟨v, H2, I2.tok _, rw', q2⟩
end
end Vw

/-! built-ins, the tape -/
namespace Vw
open PySem PySem.Spec PyProof.Rows L2

/-- the built-in names that the text uses are no names of the module's -/
structure Blt (mg : Str → Option Value) : Prop where
  abs_ : mg "abs" = none
  all_ : mg "all" = none
  bool_ : mg "bool" = none
  dict_ : mg "dict" = none
  int_ : mg "int" = none
  isinstance_ : mg "isinstance" = none
  len_ : mg "len" = none
  list_ : mg "list" = none
  max_ : mg "max" = none
  min_ : mg "min" = none
  range_ : mg "range" = none
  sorted_ : mg "sorted" = none
  str_ : mg "str" = none
  tuple_ : mg "tuple" = none

theorem hu10 {A : Around} {k : Nat} (hr : Room k A) : A.units + 10 < cLine := by
  have := hr.un
  omega

/-! ### l.extend(t), t a tuple -/
open PySem.AutoSeq1 in
theorem extend_tupAny (l b : Addr) (xs ys : Array Value) (n m : Nat) (dd : Option Addr) (sl : Array (Option Value)) (h0 : ¬(!xs.isEmpty && Builtin.List.listTooLong (xs.size + ys.size)) = true) (h1 : xs.size ≤ sizeLine) (h2 : xs.size + ys.size ≤ sizeLine + 1) :
    Meets (Builtin.«list.extend» ⟨[.ref l, .ref b], []⟩) (fun _ R s => s.heap.get? l = some { cls := .type "list", dict := none, data := .seq xs n, slots := #[] } ∧
      s.heap.get? b = some { cls := .type "tuple", dict := dd, data := .seq ys m, slots := sl } ∧ R (.ok (.ret .none)) { s with heap := s.heap.update l (Obj.mapSeq (· ++ ys)), toks := s.toks }) := by
  refine .of_wp fun prog w A R s hw => ?_
  obtain ⟨hp, g, d, tk, os⟩ := s
  obtain ⟨hl, hb, hR⟩ := hw
  have f1 := idx_int; have f2 := AutoSeq1.sub_tuple_tuple
  have f3 := AutoSeq1.sub_list_list; have f4 := AutoSeq1.sub_tuple_list
  have f5 := AutoSeq1.sub_list_tuple
  have h3 : (xs ++ ys).size ≤ sizeLine + 1 := by rw [Array.size_append]; exact h2
  wp_walk using (wpAny_updateSeq hl rfl (hz := h1) (_hz' := h3)), wpAny_loadPart' hl, wpAny_loadPart' hb
  exact ⟨_, rfl, hR⟩
def rExtT : V → List V → Hp → VK → Prop := fun x vs H Q => ∃ l b xs zs, x = .ref l ∧ vs = [.ref b] ∧ H l = some (.lst xs) ∧ Rd H b (.tup zs) ∧ xs.length + zs.length ≤ sizeLine ∧ Q .non (upd H l (.lst (xs ++ zs)))
section
variable {X : Cx}
theorem mt_extendT : MtM X "list.extend" rExtT := by
  intro pins s σ H x vs v us Q I rx rv h
  obtain ⟨l, b, xs, zs, rfl, rfl, hH, hB, hz, q⟩ := h
  cases rx
  obtain ⟨u, rfl, ru⟩ := rv.one
  cases ru
  obtain ⟨z, its, n, r, hl, e⟩ := I.lstM hH
  obtain ⟨z2, its2, r2, ⟨c2, d2, dt2, sl2⟩, h1, h2, n2, h3⟩ := hB.ok I.hok
  simp only at h2 h3
  subst h2 h3
  have e1 := r.length
  have e2 := r2.length
  have hsz : its.toArray.size + its2.toArray.size ≤ sizeLine := by
    rw [List.size_toArray, List.size_toArray]
    omega
  refine call_meets PySem.F.slot_list_extend ⟨_, e, rfl⟩ PySem.F.entry_list_extend (PySem.F.args_list_extend_2 _ _) (extend_tupAny l b its.toArray its2.toArray n n2 d2 sl2 (by rw [notLongL hsz, Bool.and_false]; exact Bool.false_ne_true) (by omega) (by omega)) ⟨e, h1, ?_⟩
  exact ⟨.non, _, I.lset (its' := its ++ its2) hH e (by simp) (r.append r2) (by rw [List.length_append]; omega), rfl, q⟩
end

/-! ### a tuple whose object is known to bear no dict: what dict(t) wants -/
def TupD (H : Hp) (a : Addr) (xs : List V) : Prop := ∃ o, H a = some (.frz o (.tup xs)) ∧ o.dict = none
theorem TupD.rd {H : Hp} {a : Addr} {xs : List V} (h : TupD H a xs) : Rd H a (.tup xs) := let ⟨o, e, _⟩ := h; .inr ⟨o, e⟩
theorem TupD.kp {ms : List Addr} {H H' : Hp} {a : Addr} {xs : List V} (h : TupD H a xs) (k : Kp ms H H') : TupD H' a xs := let ⟨o, e, d⟩ := h; ⟨o, k.frz _ _ _ e, d⟩
def tTupF (t : TA) : TE := fun σ H Q => t σ H fun xs H1 => xs.length ≤ sizeLine ∧ ∀ p o, H1 p = none → o.dict = none → Q (.ref p) (upd H1 p (.frz o (.tup xs)))
def rTupF (K : PySem.W.Frag) : List V → Hp → VK → Prop := fun xs H Q => ∃ p ys, xs = [.ref p] ∧ SqL K H p ys ∧ ∀ l o, H l = none → o.dict = none → Q (.ref l) (upd H l (.frz o (.tup ys)))
section
variable {X : Cx} {es : List Expr} {t : TA} {pos : Pos}
theorem pe_tupF {x1} (h : PA X es t) : PE X (.Tuple es x1 pos) (tTupF t) := by
  refine ⟨fun pins s σ H Q I hq => ?_⟩
  refine wpAny_Tuple_spliced (thn (h.run pos pins s σ H _ I hq) fun us s1 ⟨xs, H1, I1, r, z, q⟩ => ⟨by rw [← r.length]; exact z, ?_⟩)
  have hf : H1 s1.heap.objs.size = none := I1.hok.fresh (Nat.le_refl _)
  refine ⟨.ref s1.heap.objs.size, upd H1 s1.heap.objs.size (.frz { cls := .type "tuple", data := .seq us.toArray } (.tup xs)), I1.laid (t' := s1.toks) (fun b u e => Heap.get?_push_of_some _ e) (Nat.le_refl _) ?_, rfl, q _ _ hf rfl⟩
  have e : (s1.heap.push { cls := .type "tuple", data := .seq us.toArray }).get? s1.heap.objs.size = some { cls := .type "tuple", data := .seq us.toArray } := Heap.get?_push_size _ rfl
  exact ⟨e, z, us, r, ⟨_, e, rfl, _, rfl⟩⟩
theorem call_tuple_ofF : CallR X (.type "tuple") (rTupF X.K) := by
  intro pins s σ H xs us Q I r h
  obtain ⟨p, ys, rfl, hq, q⟩ := h
  obtain ⟨u, rfl, rx⟩ := vals1 r
  cases rx
  obtain ⟨its, r', pl, hz⟩ := I.list hq
  have hlen := r'.length
  refine call_tuple_list pl.isList (fun h' kp => ?_) (by simp only [List.size_toArray] <;> omega)
  have I1 : Inv X pins σ H { s with heap := h' } := I.kept (t' := s.toks) kp
  have e : (h'.push { cls := .type "tuple", data := .seq its.toArray }).get? h'.objs.size = some { cls := .type "tuple", data := .seq its.toArray } := Heap.get?_push_size _ rfl
  have I2 : Inv X pins σ (upd H h'.objs.size (.frz { cls := .type "tuple", data := .seq its.toArray } (.tup ys))) { s with heap := h'.push { cls := .type "tuple", data := .seq its.toArray } } :=
    I1.laid (t' := s.toks) (fun b o e => Heap.get?_push_of_some _ e) (Nat.le_refl _) ⟨e, hz, its, r', ⟨_, e, rfl, _, rfl⟩⟩
  exact ⟨.ref h'.objs.size, _, I2, rfl, q _ _ (I1.hok.fresh (Nat.le_refl _)) rfl⟩
theorem pairs2 {pins : List (Addr × Obj)} {σ : Sl} {H : Hp} {s : Shared} (I : Inv X pins σ H s) : ∀ {ps : List Addr} {kvs : List (Key × V)}, Paired (fun p kv => SqT X.K H p [kV kv.1, kv.2]) ps kvs →
    ∃ (prs : List (Key × Value)) (us : List (Value × Value)), KV kvs prs ∧ us.length = ps.length ∧ prs.length = ps.length ∧ ∀ (j : Nat) (k v : Value), us[j]? = some (k, v) → ∃ b q, ps[j]? = some b ∧ IsTup s.heap b #[k, v] ∧ prs[j]? = some (q, v) ∧ keyIs q k = true
  | _, _, .nil => ⟨[], [], .nil, rfl, rfl, fun j k v e => by simp at e⟩
  | _, _, .cons (a := p) (b := kv) h t => by
    obtain ⟨prs, us, r, h1, h2, h3⟩ := pairs2 I t
    obtain ⟨its, rv, ht, _⟩ := I.tuple h
    obtain ⟨u, y, rfl, ru, ry⟩ := vals2 rv
    refine ⟨(kv.1, y) :: prs, (u, y) :: us, .cons ⟨rfl, ry⟩ r, by simp [h1], by simp [h2], fun j k v e => ?_⟩
    cases j with
    | zero =>
      simp only [List.getElem?_cons_zero, Option.some.injEq, Prod.mk.injEq] at e
      obtain ⟨rfl, rfl⟩ := e
      exact ⟨p, kv.1, rfl, ht, rfl, kV_is (P := X.prog) (w := X.w) ru⟩
    | succ j => exact h3 j k v (by simpa using e)
/-- dict(t), t a tuple of pairs (tuples of two) -/
def rDictT (K : PySem.W.Frag) : List V → Hp → VK → Prop := fun xs H Q => ∃ (a : Addr) (ps : List Addr) (kvs : List (Key × V)), xs = [.ref a] ∧ TupD H a (ps.map V.ref) ∧ Paired (fun p kv => SqT K H p [kV kv.1, kv.2]) ps kvs ∧
  ∀ p, H p = none → Q (.ref p) (upd H p (.dK (mergeK [] kvs)))
theorem call_dictT (hcalm : X.calm = true) : CallR X (.type "dict") (rDictT X.K) := by
  intro pins s σ H xs us Q I r h
  obtain ⟨a, ps, kvs, rfl, hq, hp, q⟩ := h
  obtain ⟨u, rfl, rx⟩ := vals1 r
  cases rx
  obtain ⟨o, ho, hd⟩ := id hq
  obtain ⟨h1, hz, its, rv, o2, h2, hc, n, hdat⟩ := I.hok _ _ ho
  rw [h1] at h2
  cases h2
  obtain rfl := refs_at rv
  rw [List.length_map] at hz
  obtain ⟨prs, us, rel, l1, l2, hpr⟩ := pairs2 I hp
  have P := PairArg.tuple (prog := X.prog) (w := X.w) a (ps.map Value.ref).toArray (fun j => ps.getD j 0) us
  have hm : (s.heap.objs.size == sysModules) = false := beq_eq_false_iff_ne.mpr (Nat.ne_of_gt I.big)
  have hlen : (mergeK [] kvs).length ≤ sizeLine := by
    have := length_mergeK kvs []
    rw [List.length_nil, Nat.zero_add, rel.length, l2] at this
    omega
  refine PySem.call_dict_pairs (knd := mixKind X.prog X.w) (kvs := prs) P (I.ok.hd hcalm) ⟨⟨o, n, h1, hc, hd, hdat⟩, by simp [l1], fun j k v e => ?_⟩ ⟨by rw [l2, l1], fun j k v e => ?_⟩ (by rw [l1]; exact hz) fun h' tk hd' kk => ?_
  · obtain ⟨b, q', e1, e2, _⟩ := hpr j k v e
    refine ⟨by simp [e1], .inl ?_⟩
    have z : ps.getD j 0 = b := by simp [List.getD, e1]
    show s.heap.IsTuple (ps.getD j 0) #[k, v]
    rw [z]
    exact e2
  · obtain ⟨b, q', e1, e2, e3, e4⟩ := hpr j k v e
    exact ⟨q', e3, e4⟩
  · exact ⟨.ref s.heap.objs.size, upd H s.heap.objs.size (.dK (mergeK [] kvs)), I.laid (t' := tk) (fun b o e => kk b o (by simp) e) (Nat.le_refl _) (show ObjOk X.prog X.w _ _ _ (.dK (mergeK [] kvs)) from ⟨hlen, hm, merged [] prs, KV.merge rel .nil, hd'⟩), rfl, q _ (I.hok.fresh (Nat.le_refl _))⟩
end
end Vw

/-! sorted of pairs (text, int) and ((text, text), int): the same pairs in some order -/
namespace Vw
open PySem PySem.Spec PyProof.Rows L2

/-! ### t < u of texts -/
def lexS : List Str → List Str → Bool
  | x :: xs, y :: ys => if x = y then lexS xs ys else decide (x.cps.toList < y.cps.toList)
  | [], _ :: _ => true
  | _, [] => false
abbrev StrsAre (vs : List Value) (xs : List Str) : Prop := Paired (fun (x : Str) v => ∃ t, v = Value.str x t) xs vs
theorem StrsAre.len {vs : List Value} {xs : List Str} (h : StrsAre vs xs) : xs.length = vs.length := Paired.length h
section
open PySem.SeqAt
open PySem.AutoSeq1 (wpAny_loadPart')
open PySem.MeetsSeq PySem.MeetsSeq2 PySem.MeetsSeq3
theorem tuple_lt_texts (l b : Addr) (is js : Array Value) (n m : Nat) (d1 d2 : Option Addr) (s1 s2 : Array (Option Value)) (xs ys : List Str) (hi : StrsAre is.toList xs) (hj : StrsAre js.toList ys) :
    Meets (Builtin.«tuple.__lt__» ⟨[.ref l, .ref b], []⟩) (fun _ R s => s.heap.get? l = some { cls := .type "tuple", dict := d1, data := .seq is n, slots := s1 } ∧
      s.heap.get? b = some { cls := .type "tuple", dict := d2, data := .seq js m, slots := s2 } ∧ R (.ok (.ret (.bool (lexS xs ys)))) s) := by
  refine .of_wp fun prog w A R s hw => ?_
  obtain ⟨hp, g, d, tk, os⟩ := s
  obtain ⟨hl, hb, hR⟩ := hw
  have f2 := AutoSeq1.sub_tuple_tuple
  have z1 : is.size = xs.length := by rw [hi.len]; simp
  have z2 : js.size = ys.length := by rw [hj.len]; simp
  wp_walk using wpAny_loadPart' hl, wpAny_loadPart' hb, wpAny_forIn_list _ (fun rest b s' => b.1 = none ∧ s' = ⟨hp, g, d, tk, os⟩ ∧ ∃ (vs us : List Value) (as bs : List Str), rest = vs.zip us ∧
      StrsAre vs as ∧ StrsAre us bs ∧ as.length + js.size = bs.length + is.size ∧ R (.ok (.ret (.bool (lexS as bs)))) ⟨hp, g, d, tk, os⟩) _
  case turn =>
    rintro ⟨y, x⟩ rest b s' ⟨hb', rfl, vs, us, as, bs, hz, hv, hu, hlen, hR⟩
    cases hv with
    | nil => rw [List.zip_nil_left] at hz; cases hz
    | cons p hv' =>
      cases hu with
      | nil => rw [List.zip_nil_right] at hz; cases hz
      | cons q hu' =>
        obtain ⟨t, rfl⟩ := p
        obtain ⟨u, rfl⟩ := q
        rw [List.zip_cons_cons] at hz
        injection hz with hyx hrest
        injection hyx with hy hx
        subst hy hx
        rename_i x1 _ _ y1 _ _
        have hR2 : R (.ok (.ret (.bool (if x1 = y1 then lexS _ _ else decide (x1.cps.toList < y1.cps.toList))))) _ := hR
        simp only [List.length_cons] at hlen
        have he := SeqAt.EqAt.str_str (A := A.in1) (s := ⟨hp, g, d, tk, os⟩) x1 t y1 u
        refine wpAny_bind (he prog w _ _ ?_)
        cases e : (x1 == y1) with
        | true =>
          rw [if_pos (by simpa using e)] at hR2
          wp_walk
          exact ⟨rfl, rfl, _, _, _, _, hrest, hv', hu', by omega, hR2⟩
        | false =>
          rw [if_neg (by simpa using e)] at hR2
          have hri := DT.rcLt_str A.in1 ⟨hp, g, d, tk, os⟩ x1 t y1 u prog w
          wp_walk using hri
          exact ⟨_, rfl, by simpa using hR2⟩
  case fin =>
    rintro ⟨b1, b2⟩ s' ⟨hb', rfl, vs, us, as, bs, hz, hv, hu, hlen, hR⟩
    simp only at hb'
    subst hb'
    have hv : lexS as bs = decide (is.size < js.size) := by
      cases hv with
      | nil =>
        cases hu with
        | nil =>
          simp only [List.length_nil] at hlen
          exact (decide_eq_false (by omega)).symm
        | cons q hu' =>
          simp only [List.length_nil, List.length_cons] at hlen
          exact (decide_eq_true (by omega)).symm
      | cons p hv' =>
        cases hu with
        | nil =>
          simp only [List.length_nil, List.length_cons] at hlen
          exact (decide_eq_false (by omega)).symm
        | cons q hu' =>
          rw [List.zip_cons_cons] at hz
          cases hz
    rw [hv] at hR
    wp_walk
    exact ⟨_, rfl, by simpa [Builtin.Tuple.tupleCompareSizes] using hR⟩
  case h =>
    exact ⟨rfl, rfl, is.toList, js.toList, xs, ys, rfl, hi, hj, by omega, hR⟩
end

section
variable {prog : Program} {w : World} {A : Around} {E : Value → Shared → Prop} {s : Shared}
theorem lt_texts {l b : Addr} {is js : Array Value} {xs ys : List Str} {Q : Value → Shared → Prop} (hl : IsTup s.heap l is) (hb : IsTup s.heap b js) (hi : StrsAre is.toList xs) (hj : StrsAre js.toList ys)
    (hu : A.units < cLine) (h : Q (.bool (lexS xs ys)) s) : wpAny (model prog w) A (compareOp .Lt (.ref l) (.ref b)) Q E s := by
  obtain ⟨⟨c1, d1, t1, s1⟩, ho, hc, n, hd⟩ := id hl
  obtain ⟨⟨c2, d2, t2, s2⟩, ho2, hc2, n2, hd2⟩ := id hb
  simp only at hc hd hc2 hd2
  subst hc hd hc2 hd2
  exact richCompare_meets_room (op := .Lt) ⟨_, ho, rfl⟩ ⟨_, ho2, rfl⟩ PySem.F.slot_tuple_lt PySem.F.entry_tuple_lt (PySem.F.args_tuple_lt_2 _ _) (tuple_lt_texts l b is js n n2 d1 d2 s1 s2 xs ys hi hj)
    ⟨ho, ho2, ⟨(fun x => nomatch x), h⟩⟩ hu

/-- a tuple of a first thing and an int -/
def IsFI (h : Heap) (F : Value → Prop) (v : Value) : Prop := ∃ a o f i u n, v = .ref a ∧ h.get? a = some o ∧ o.cls = .type "tuple" ∧ o.data = .seq #[f, .int i u] n ∧ F f
def IsS (v : Value) : Prop := ∃ x t, v = Value.str x t
/-- a tuple of two texts -/
def IsSS (h : Heap) (v : Value) : Prop := ∃ (k : Addr) (x y : Str) (t u : Tok), v = .ref k ∧ IsTup h k #[.str x t, .str y u]
theorem IsSS.key {h : Heap} {v : Value} (x : IsSS h v) : ∃ k z, v = .ref k ∧ (nestedKind prog w).is h z k := by
  obtain ⟨k, x, y, t, u, rfl, o, ho, hc, n, hd⟩ := x
  exact ⟨k, .tup [.text x, .text y], rfl, .tup ho hc hd (.cons (.text _ _) (.cons (.text _ _) .nil)), by simp [NestedKey.depth, NestedKey.depthAll]⟩

theorem fi_firsts {h : Heap} {F : Value → Prop} : ∀ {vs : List Value}, (∀ v ∈ vs, IsFI h F v) → ∃ fs : List Value, PySem.W.KatTups h vs fs ∧ fs.length = vs.length ∧ ∀ f ∈ fs, F f
  | [], _ => ⟨[], PySem.W.KatTups.nil, rfl, fun _ hm => by simp at hm⟩
  | v :: vs, hp => by
    obtain ⟨fs, h1, h2, h3⟩ := fi_firsts (vs := vs) fun v' hm => hp v' (List.mem_cons_of_mem _ hm)
    obtain ⟨a, o, f, i, u, n, e, ho, hc, hd, hF⟩ := hp v (List.mem_cons_self ..)
    subst e
    refine ⟨f :: fs, PySem.W.KatTups.cons ho hc hd rfl h1, by rw [List.length_cons, List.length_cons, h2], fun g hm => ?_⟩
    rcases List.mem_cons.mp hm with rfl | hm
    · exact hF
    · exact h3 g hm
/-- two such compare, if their firsts do -/
theorem fi_tot {b : Bool} {F : Value → Prop} {vs : List Value} (hp : ∀ v ∈ vs, IsFI s.heap F v) (hF : ∀ f g, F f → F g → ∃ e c : Bool, (∀ (Q : Bool → Shared → Prop) (E : Value → Shared → Prop), Q e s → wpAny (model prog w) A (eqBool f g) Q E s) ∧
      (∀ (Q : Bool → Shared → Prop), Q c s → wpAny (model prog w) A (oneLt' b f g) Q (fun _ _ => False) s)) : Srt.Tot prog w A s (tuples' b) (fun p => p.1 ∈ vs) := by
  intro p q hm hm'
  obtain ⟨a, o, f, i, u, n, e, ho, hc, hd, hf⟩ := hp _ hm
  obtain ⟨a', o', f', i', u', n', e', ho', hc', hd', hf'⟩ := hp _ hm'
  rw [e, e']
  obtain ⟨r, c, h1, h2⟩ := hF f f' hf hf'
  refine ⟨if r = true then (if (i == i') = true then false else decide (i < i')) else c, ?_⟩
  refine PySem.W.kat_lt ho hd ho' hd' ?_
  show PySem.W.KatLex prog w A b (decide (2 < 2)) _ [(f, f'), (.int i u, .int i' u')] 0 s
  refine PySem.W.kat_cons (h1 _ _ ?_)
  refine PySem.W.kat_go (fun e1 => ?_) (fun e1 => ?_)
  · rw [if_pos e1]
    refine PySem.W.kat_yes (PySem.W.kat_cons (wpAny_eqBool_int ?_))
    refine PySem.W.kat_go (fun e2 => ?_) (fun e2 => ?_)
    · rw [if_pos e2]
      exact PySem.W.kat_yes (PySem.W.kat_nil ⟨rfl, rfl⟩)
    · rw [if_neg (by rw [e2]; exact Bool.false_ne_true)]
      refine PySem.W.kat_no ?_
      have z : (b && (0 + 1 == 0)) = false := by simp
      rw [z]
      exact PySem.W.kat_one _ _ (PyProof.Rows.lt_int ⟨rfl, rfl⟩)
  · rw [if_neg (by rw [e1]; exact Bool.false_ne_true)]
    refine PySem.W.kat_no ?_
    have z : (b && (0 == 0)) = b := by simp
    rw [z]
    exact h2 _ ⟨rfl, rfl⟩
theorem IsFI.keeps {h h' : Heap} {F F' : Value → Prop} {v : Value} (p : IsFI h F v) (k : ∀ b o, h.get? b = some o → o.cls = .type "tuple" → h'.get? b = some o) (hF : ∀ f, F f → F' f) : IsFI h' F' v := by
  obtain ⟨a, o, f, i, u, n, e, ho, hc, hd, hf⟩ := p
  exact ⟨a, o, f, i, u, n, e, k _ _ ho hc, hc, hd, hF _ hf⟩
theorem IsSS.keeps {h h' : Heap} {v : Value} (p : IsSS h v) (k : ∀ b o, h.get? b = some o → o.cls = .type "tuple" → h'.get? b = some o) : IsSS h' v := by
  obtain ⟨a, x, y, t, u, e, o, ho, hc, hd⟩ := p
  exact ⟨a, x, y, t, u, e, o, k _ _ ho hc, hc, hd⟩
theorem sortable_S {a : Addr} {vs : List Value} (h0 : 0 < vs.length) (hp : ∀ v ∈ vs, IsFI s.heap IsS v) (ha : ∀ o, s.heap.get? a = some o → o.cls ≠ .type "tuple") : Srt.Sortable prog w A s a vs := by
  intro h' keep
  have hp' : ∀ v ∈ vs, IsFI h' IsS v := fun v hm => (hp v hm).keeps (fun b o e c => keep b o (fun z => by subst z; exact ha o e c) e) fun _ z => z
  obtain ⟨fs, h1, h2, h3⟩ := fi_firsts hp'
  refine ⟨tuples' true, fun Q E hq => ?_, fi_tot hp' fun f g ⟨x, t, ef⟩ ⟨y, u, eg⟩ => ?_⟩
  · refine PySem.W.kat_kind (T := .type "str") h1 (by omega) (fun f hm => ?_) (by rfl) ?_
    · obtain ⟨x, t, rfl⟩ := h3 f hm
      exact PySem.W.Looks.now
    · have e : (Value.type "str" != Value.type "tuple") = true := by first | decide +kernel | rfl | decide
      rw [e]
      exact hq
  · subst ef eg
    exact ⟨_, _, fun Q E h => SeqAt.EqAt.str_str x t y u prog w _ _ h, fun Q h => oneLt_str h⟩
theorem sortable_SS {a : Addr} {vs : List Value} (hu : A.units + 8 < cLine) (h0 : 0 < vs.length) (hp : ∀ v ∈ vs, IsFI s.heap (IsSS s.heap) v) (ha : ∀ o, s.heap.get? a = some o → o.cls ≠ .type "tuple") : Srt.Sortable prog w A s a vs := by
  intro h' keep
  have kk : ∀ b o, s.heap.get? b = some o → o.cls = .type "tuple" → h'.get? b = some o := fun b o e c => keep b o (fun z => by subst z; exact ha o e c) e
  have hp' : ∀ v ∈ vs, IsFI h' (IsSS h') v := fun v hm => (hp v hm).keeps kk fun _ z => z.keeps kk
  obtain ⟨fs, h1, h2, h3⟩ := fi_firsts hp'
  refine ⟨tuples' false, fun Q E hq => ?_, fi_tot (s := { s with heap := h' }) hp' fun f g hf hg => ?_⟩
  · refine PySem.W.kat_kind (T := .type "tuple") h1 (by omega) (fun f hm => ?_) (by rfl) ?_
    · obtain ⟨k, x, y, t, u, rfl, o, ho, hc, _⟩ := h3 f hm
      have z : PySem.W.Looks (model prog w) h' (typeOf (.ref k)) o.cls := (PySem.W.Looks.ld ho).andThen .now
      rw [hc] at z
      exact z
    · have e : (Value.type "tuple" != Value.type "tuple") = false := by first | decide +kernel | rfl | decide
      rw [e]
      exact hq
  · obtain ⟨k, z, ek, ik⟩ := IsSS.key (prog := prog) (w := w) hf
    obtain ⟨k', z', ek', ik'⟩ := IsSS.key (prog := prog) (w := w) hg
    obtain ⟨k2, x, y, t, u, e2, t2⟩ := hf
    obtain ⟨k3, x', y', t', u', e3, t3⟩ := hg
    subst ek ek'
    cases e2
    cases e3
    refine ⟨_, _, fun Q E h => (nestedKind prog w).eqBool (s := { s with heap := h' }) hu ik ik' h, fun Q h => PySem.W.kat_one _ _ (lt_texts (s := { s with heap := h' }) (xs := [x, y]) (ys := [x', y']) t2 t3 (.cons ⟨_, rfl⟩ (.cons ⟨_, rfl⟩ .nil)) (.cons ⟨_, rfl⟩ (.cons ⟨_, rfl⟩ .nil)) (by omega) h)⟩
theorem sorted_of {l : Addr} {vs : List Value} {Q : Value → Shared → Prop} (hl : s.heap.IsList l vs.toArray) (hz : vs.length ≤ sizeLine)
    (hS : ∀ (h1 : Heap) (a : Addr), 0 < vs.length → (∀ b o, s.heap.get? b = some o → h1.get? b = some o) → (∀ o, h1.get? a = some o → o.cls ≠ .type "tuple") → Srt.Sortable prog w A.in1.in1 { s with heap := h1 } a vs)
    (h : ∀ (h' : Heap) (d : Addr) (out : List Value), out.Perm vs → (∀ b o, s.heap.get? b = some o → h'.get? b = some o) → s.heap.objs.size ≤ d → (∃ n, h'.get? d = some (PyProof.Rows.seqObj "list" out.toArray n)) → Q (.ref d) { s with heap := h' }) :
    wpAny (model prog w) A (call (.builtin "sorted") [.ref l]) Q E s := by
  refine Srt.sorted_any hl hz (fun h2 h1 a ha k => hS h1 a (by omega) (fun b o e => (k b o e).2) fun o e => ?_) fun out ho => ?_
  · have e' : some o = some (PyProof.Rows.seqObj "list" vs.toArray 0) := e.symm.trans ha
    cases e'
    intro c
    exact absurd (Value.type.inj c) (by decide)
  · exact h _ _ out ho (fun b o e => sortedAll_old e) (Nat.le_succ _) (sortedAll_at s.heap vs out.toArray)
end

/-- sorted(xs), xs pairs (text, int); pairs ((text, text), int): the same pairs in some order -/
def rSrtSI (K : PySem.W.Frag) : List V → Hp → VK → Prop := fun vs H Q => ∃ a xs, vs = [V.ref a] ∧ SqL K H a xs ∧ (∀ x ∈ xs, ∃ t y i, x = V.ref t ∧ H t = some (.tup [.str y, .int i])) ∧
  ∀ ys p, ys.Perm xs → H p = none → Q (.ref p) (upd H p (.lst ys))
def rSrtTI (K : PySem.W.Frag) : List V → Hp → VK → Prop := fun vs H Q => ∃ a xs, vs = [V.ref a] ∧ SqL K H a xs ∧ (∀ x ∈ xs, ∃ t k y z i, x = V.ref t ∧ H t = some (.tup [.ref k, .int i]) ∧ H k = some (.tup [.str y, .str z])) ∧
  ∀ ys p, ys.Perm xs → H p = none → Q (.ref p) (upd H p (.lst ys))
section
variable {X : Cx}
theorem srt_core {pins : List (Addr × Obj)} {σ : Sl} {H : Hp} {s : Shared} {a : Addr} {xs : List V} {Q : VK} (I : Inv X pins σ H s) (hs : SqL X.K H a xs) (hx : ∀ x ∈ xs, ∃ t, x = V.ref t)
    (hS : ∀ (vs : List Value) (h1 : Heap) (b : Addr), xs = vs.map backV → (∀ u ∈ vs, ∃ c, u = Value.ref c) → 0 < vs.length → (∀ b o, s.heap.get? b = some o → h1.get? b = some o) → (∀ o, h1.get? b = some o → o.cls ≠ .type "tuple") → Srt.Sortable X.prog X.w X.A.in1.in1 { s with heap := h1 } b vs)
    (q : ∀ ys p, ys.Perm xs → H p = none → Q (.ref p) (upd H p (.lst ys))) : wpAny (model X.prog X.w) X.A (call (.builtin "sorted") [.ref a]) (EP X pins σ Q) X.xe s := by
  obtain ⟨its, rv, hl, hz⟩ := I.list hs
  obtain ⟨e1, e2⟩ := refs_back rv hx
  refine sorted_of hl.isList (by rw [← rv.length]; exact hz) (fun h1 b h0 k hb => hS its h1 b e1 e2 h0 k hb) fun h' d out hp k hd ⟨n, hn⟩ => ?_
  have h3 : ∀ u ∈ out, ∃ a, u = Value.ref a := fun u hu => e2 u (hp.mem_iff.mp hu)
  refine ⟨.ref d, upd H d (.lst (out.map backV)), I.laid (t' := s.toks) k hd ⟨?_, out, n, vals_back h3, hn⟩, rfl, q _ d ?_ (I.hok.fresh hd)⟩
  · rw [List.length_map, hp.length_eq, ← rv.length]; exact hz
  · rw [e1]; exact hp.map backV
theorem cr_sortedSI : CallR X (.builtin "sorted") (rSrtSI X.K) := by
  intro pins s σ H vs us Q I r h
  obtain ⟨a, xs, rfl, hs, hx, q⟩ := h
  obtain ⟨u, rfl, ru⟩ := vals1 r
  obtain rfl : u = Value.ref a := ru
  refine srt_core I hs (fun x m => let ⟨t, _, _, e, _⟩ := hx x m; ⟨t, e⟩) (fun vs h1 b ev er h0 k hb => sortable_S (s := { s with heap := h1 }) h0 (fun v hv => ?_) hb) q
  obtain ⟨t, rfl⟩ := er v hv
  have hm : V.ref t ∈ xs := by rw [ev]; exact List.mem_map.mpr ⟨_, hv, rfl⟩
  obtain ⟨t', y, i, e, ht⟩ := hx _ hm
  cases e
  obtain ⟨_, its2, r2, o, ho, hc, n, hd⟩ := I.hok _ _ ht
  obtain ⟨u1, u2, rfl, ⟨t1, rfl⟩, t2, rfl⟩ := vals2 r2
  exact ⟨t, o, _, i, t2, n, rfl, k _ _ ho, hc, hd, y, t1, rfl⟩
theorem cr_sortedTI (hu : X.A.units + 12 < cLine) : CallR X (.builtin "sorted") (rSrtTI X.K) := by
  intro pins s σ H vs us Q I r h
  obtain ⟨a, xs, rfl, hs, hx, q⟩ := h
  obtain ⟨u, rfl, ru⟩ := vals1 r
  obtain rfl : u = Value.ref a := ru
  refine srt_core I hs (fun x m => let ⟨t, _, _, _, _, e, _⟩ := hx x m; ⟨t, e⟩) (fun vs h1 b ev er h0 k hb => sortable_SS (s := { s with heap := h1 }) (by show X.A.units + 1 + 1 + 8 < cLine; omega) h0 (fun v hv => ?_) hb) q
  obtain ⟨t, rfl⟩ := er v hv
  have hm : V.ref t ∈ xs := by rw [ev]; exact List.mem_map.mpr ⟨_, hv, rfl⟩
  obtain ⟨t', kk, y, z, i, e, ht, hk⟩ := hx _ hm
  cases e
  obtain ⟨_, its2, r2, o, ho, hc, n, hd⟩ := I.hok _ _ ht
  obtain ⟨u1, u2, rfl, r1, t2, rfl⟩ := vals2 r2
  cases (show u1 = Value.ref kk from r1)
  obtain ⟨_, its3, r3, o3, ho3, hc3, n3, hd3⟩ := I.hok _ _ hk
  obtain ⟨v1, v2, rfl, ⟨t3, rfl⟩, t4, rfl⟩ := vals2 r3
  exact ⟨t, o, _, i, t2, n, rfl, k _ _ ho, hc, hd, kk, y, z, t3, t4, rfl, o3, k _ _ ho3, hc3, n3, hd3⟩
end
end Vw

set_option maxHeartbeats 4000000
/-! the tape, draws, names, numbers -/
namespace Vw
open PySem PySem.Spec PyProof.Rows L2
open C8 (pss_cut tCut)

/-- a def that may be called by its name -/
structure Cl (P : Program) (w : World) (K : PySem.W.Frag) (mg : Str → Option Value) (base : Heap) (k : Nat) (x : Str) (sp : Sp) : Prop where
  ex : ∃ (f : Addr) (fd : FuncData) (ps : List Str), FnOk P w K mg base CX0 k f fd ps sp ∧ mg x = some (.ref f) ∧ PySem.W.keepIn K (.ref f) = true ∧ Binds K fd ps []
theorem Cl.mono {P : Program} {w : World} {K : PySem.W.Frag} {mg : Str → Option Value} {base : Heap} {j k : Nat} {x : Str} {sp : Sp} (c : Cl P w K mg base j x sp) (h : j ≤ k) : Cl P w K mg base k x sp := by
  obtain ⟨f, fd, ps, F, r⟩ := c.ex
  exact ⟨f, fd, ps, F.mono h, r⟩
theorem pe_cl {X : Cx} {k : Nat} {x : Str} {sp : Sp} {p pos : Pos} {e : Expr} {es : List Expr} {t : TA} (c : Cl X.prog X.w X.K X.mg X.base k x sp) (hr : Room k X.A) (hg : Gl X x) (ha : PA X (e :: es) t)
    (hdb : (x == ("__debug__" : Str)) = false := by decide) (he : starEach (e :: es) X.env = (false, eval e X.env) :: starEach es X.env := by rfl) (hpl : (backTo pos (starEach es X.env)).any (·.1) = false := by rfl) :
    PE X (.Call (.Name x p) (e :: es) [] pos) (tCall sp [] E0 t) := by
  obtain ⟨f, fd, ps, F, hm, kp, b⟩ := c.ex
  exact pe_call F hr hg hm kp b .nil pass0 ha hdb he hpl

/-! the rules that speak of the written part, with its name told (for a comprehension's block) -/
section
variable {X : Cx} {K : PySem.W.Frag}
theorem ix_listK (h : X.K = K := by rfl) : IxR X (rIxL K) := by rw [← h]; exact ix_list
theorem ix_tupK (h : X.K = K := by rfl) : IxR X (rIxT K) := by rw [← h]; exact ix_tup
theorem sl_tupAK (h : X.K = K := by rfl) : SlR X (rSlA K) := by rw [← h]; exact sl_tupA
theorem op_catAK (h : X.K = K := by rfl) : OpR X (binaryOp .Add) (rCatA K) := by rw [← h]; exact op_catA
end

/-- the script at s: nothing writes it -/
def Scr (K : PySem.W.Frag) (H : Hp) (s : Addr) (ns : List Int) : Prop := (∃ o, H s = some (.frz o (.lst (ns.map V.int)))) ∨
  ∃ (o : Obj) (its : Array Value) (n : Nat), K.lookup s = some o ∧ o.cls = .type "list" ∧ o.dict = none ∧ o.data = .seq its n ∧ its.size ≤ sizeLine ∧ Vals (ns.map V.int) its.toList
theorem Scr.sq {K : PySem.W.Frag} {H : Hp} {s : Addr} {ns : List Int} (h : Scr K H s ns) : SqL K H s (ns.map V.int) := by
  rcases h with ⟨o, h⟩ | h
  · exact .inl (.inr ⟨o, h⟩)
  · exact .inr h
theorem Scr.kp {K : PySem.W.Frag} {H H' : Hp} {ms : List Addr} {s : Addr} {ns : List Int} (h : Scr K H s ns) (k : Kp ms H H') : Scr K H' s ns := by
  rcases h with ⟨o, h⟩ | h
  · exact .inl ⟨o, k.frz _ _ _ h⟩
  · exact .inr h
/-- the tape at t: the script, how many draws, what is left of a number, the next place -/
def Tp (K : PySem.W.Frag) (H : Hp) (t : Addr) : Prop := ∃ (s : Addr) (ns : List Int) (i n j : Int), H t = some (.lst [.ref s, .int i, .int n, .int j]) ∧ Scr K H s ns ∧ ns.length ≤ 63 ∧ 0 ≤ n ∧ 0 ≤ j
theorem Tp.kp {K : PySem.W.Frag} {H H' : Hp} {ms : List Addr} {t : Addr} (h : Tp K H t) (k : Kp ms H H') (n : t ∉ ms) : Tp K H' t := by
  obtain ⟨s, ns, i, m, j, e, hs, r⟩ := h
  exact ⟨s, ns, i, m, j, k.all _ _ n e, hs.kp k, r⟩
theorem Tp.same {K : PySem.W.Frag} {H H' : Hp} {t : Addr} (h : Tp K H t) (x : Same H H') : Tp K H' t := h.kp (ms := []) (.same x) (by simp)

section
variable {P : Program} {w : World} {K : PySem.W.Frag} {mg : Str → Option Value} {base : Heap} {f : Addr} {fd : FuncData} {k : Nat}
def spDraw (K : PySem.W.Frag) : Sp := fun vs H Q _ => ∃ (t : Addr) (m : Int), vs = [.ref t, .int m] ∧ 0 < m ∧ m < 1000000 ∧ Tp K H t ∧ ∀ r H', 0 ≤ r → r < m → Kp [t] H H' → Tp K H' t → Q (.int r) H'
theorem sc_law_draw : FnScope ["_law_tape_here", "_law_many", "_law_script", "_law_digit", "_law_cell", "_law_mixed"] ["_law_tape_here", "_law_many"] (defScope (Vh.top 5)) := ⟨rfl, rfl, rfl, by decide +kernel, rfl, by decide +kernel, by decide +kernel⟩
theorem ok_draw (F : Fun K "_law_draw" "_law_draw" (Vh.top 5) f fd) (B : Blt mg) : FnOk P w K mg base CX0 (k + 1) f fd ["_law_tape_here", "_law_many"] (spDraw K) := by
  refine F.ok sc_law_draw (fun vs H Q E h => ?_) (fun cdv A outer s H vs Q E hr h => ?_)
  · obtain ⟨t, m, rfl, _⟩ := h
    rfl
  obtain ⟨t, m, rfl, hm, hm2, ⟨s, ns, i, n, j, ht, hs0, h63, hn, hj⟩, q⟩ := h
  have hs := hs0.sq
  refine ⟨_, (pss_cons (ps_set (i := 2) sc_law_draw.nd rfl (Or.inl rfl) (pe_ix ix_list (pv 0) pe_int (fun _ _ => rfl)))
  (pss_cons (ps_asg (pe_op op_add (pe_ix ix_list (pv 0) pe_int (fun _ _ => rfl)) pe_int) (pg_sub (pv 0) pe_int set_list))
  (pss_cut (ps_if (PW.pt (pw_and (pt_cmpR op_eq (pe_ix ix_list (pv 0) pe_int (fun _ _ => rfl)) pe_int (nomark _)) (pw_and1 (pt_cmpR op_lt (pe_ix ix_list (pv 0) pe_int (fun _ _ => rfl)) (pe_callB call_len_seq (by rfl) B.len_ (by decide +kernel) (pa_cons (pv 2) pa_nil)) (nomark _))))) (pss_cons (ps_asg (pe_op op_fdivW (pe_callB call_abs (by rfl) B.abs_ (by decide +kernel) (pa_cons (pe_ix ix_list (pv 2) (pe_ix ix_list (pv 0) pe_int (fun _ _ => rfl)) (fun _ _ => rfl)) pa_nil)) (pe_op op_pow pe_int pe_int)) (pg_sub (pv 0) pe_int set_list))
  (pss_one (ps_asg (pe_op op_add (pe_ix ix_list (pv 0) pe_int (fun _ _ => rfl)) pe_int) (pg_sub (pv 0) pe_int set_list)))) pss_nil)
  (pss_cons (ps_if (pt_cmpR op_gt (pe_ix ix_list (pv 0) pe_int (fun _ _ => rfl)) pe_int (nomark _)) (pss_cons (ps_set (i := 3) sc_law_draw.nd rfl (Or.inl rfl) (pe_op op_modN (pe_ix ix_list (pv 0) pe_int (fun _ _ => rfl)) (pv 1)))
  (pss_cons (ps_asg (pe_op op_fdivN (pe_ix ix_list (pv 0) pe_int (fun _ _ => rfl)) (pv 1)) (pg_sub (pv 0) pe_int set_list))
  (pss_one (ps_ret (pv 3))))) pss_nil)
  (pss_cons (ps_set (i := 4) sc_law_draw.nd rfl (Or.inl rfl) pe_int)
  (pss_cut (ps_if (pt_cmpR op_gt (pe_callB call_len_seq (by rfl) B.len_ (by decide +kernel) (pa_cons (pv 2) pa_nil)) pe_int (nomark _)) (pss_one (ps_set (i := 4) sc_law_draw.nd rfl (Or.inl rfl) (pe_ix ix_list (pv 2) (pe_op op_modN (pe_ix ix_list (pv 0) pe_int (fun _ _ => rfl)) (pe_callB call_len_seq (by rfl) B.len_ (by decide +kernel) (pa_cons (pv 2) pa_nil))) (fun _ _ => rfl)))) pss_nil)
  (pss_cons (ps_set (i := 5) sc_law_draw.nd rfl (Or.inl rfl) (pe_op op_modN (pe_op op_add (pe_op op_add (pe_op op_mul (pe_op op_modN (pv 4) pe_int) pe_int) (pe_op op_mul (pe_ix ix_list (pv 0) pe_int (fun _ _ => rfl)) pe_int)) pe_int) pe_int))
  (pss_cons (ps_set (i := 5) sc_law_draw.nd rfl (Or.inl rfl) (pe_op op_modN (pe_op op_mul (pv 5) (pe_op op_add (pv 5) pe_int)) pe_int))
  (pss_one (ps_ret (pe_op op_modN (pe_op op_modN (pe_op op_mul (pv 5) pe_int) pe_int) (pv 1)))))))))))), ?_⟩
  -- script; the count of draws
  refine ⟨_, rfl, t, _, 0, _, rfl, rfl, .of ht, rfl, ?_⟩
  refine ⟨_, rfl, t, _, 1, _, rfl, rfl, .of ht, rfl, _, _, rfl, rfl, ?_⟩
  refine ⟨_, rfl, t, _, 1, 1, rfl, rfl, ht, rfl, ?_⟩
  have k1 : Kp [t] H (upd H t (.lst [.ref s, .int (i + 1), .int n, .int j])) := .put (by simp) ht (fun _ z => nomatch z) fun _ _ z => nomatch z
  -- the next number
  refine ⟨fun σ' H' => σ' = [some (.ref t), some (.int m), some (.ref s), none, none, none] ∧ ∃ n' j' : Int, 0 ≤ n' ∧ 0 ≤ j' ∧ Kp [t] H H' ∧ H' t = some (.lst [.ref s, .int (i + 1), .int n', .int j']), ?_, ?_⟩
  · refine ⟨_, rfl, t, _, 2, _, rfl, rfl, .of upd_same, rfl, rfl, _, rfl, ?_⟩
    have done : ∃ n' j' : Int, 0 ≤ n' ∧ 0 ≤ j' ∧ Kp [t] H (upd H t (.lst [.ref s, .int (i + 1), .int n, .int j])) ∧ (upd H t (.lst [.ref s, .int (i + 1), .int n, .int j])) t = some (.lst [.ref s, .int (i + 1), .int n', .int j']) := ⟨n, j, hn, hj, k1, upd_same⟩
    refine ite2 (fun c => ?_) (fun c => ?_)
    · have hs1 : SqL K (upd H t (.lst [.ref s, .int (i + 1), .int n, .int j])) s (ns.map V.int) := (hs0.kp k1).sq
      refine ⟨_, rfl, t, _, 3, _, rfl, rfl, .of upd_same, rfl, _, rfl, s, _, rfl, .inl hs1, _, _, rfl, rfl, _, rfl, ?_⟩
      refine ite2 (fun c2 => ?_) (fun c2 => ?_)
      · have c2' : j < ((ns.map V.int).length : Nat) := of_decide_eq_true c2
        rw [List.length_map] at c2'
        have hjn : j.toNat < ns.length := by omega
        have hat : atI (ns.map V.int) j = some (.int ns[j.toNat]) := by
          have := atI_nat (xs := ns.map V.int) (j := j.toNat) (v := .int ns[j.toNat]) (by rw [List.getElem?_map, List.getElem?_eq_getElem hjn]; rfl)
          rw [← this]
          congr 1
          omega
        refine ⟨_, rfl, _, rfl, t, _, 3, _, rfl, rfl, .of upd_same, rfl, s, _, j, _, rfl, rfl, hs1, hat, _, rfl, _, _, rfl, rfl, ⟨by decide, by decide, by decide⟩, _, _, rfl, rfl, ⟨by decide, by decide⟩, _, rfl, t, _, 2, 2, rfl, rfl, upd_same, rfl, ?_⟩
        refine ⟨_, rfl, t, _, 3, _, rfl, rfl, .of upd_same, rfl, _, _, rfl, rfl, _, rfl, t, _, 3, 3, rfl, rfl, upd_same, rfl, ?_⟩
        rw [upd_upd, upd_upd]
        refine ⟨rfl, _, j + 1, ?_, by omega, .put (by simp) ht (fun _ z => nomatch z) (fun _ _ z => nomatch z), upd_same⟩
        refine Int.ediv_nonneg ?_ (by decide)
        split <;> omega
      · exact ⟨rfl, done⟩
    · exact iteF ⟨rfl, done⟩
  · rintro σ' H' ⟨rfl, n', j', hn', hj', kp, ht'⟩
    have hs1 : SqL K H' s (ns.map V.int) := (hs0.kp kp).sq
    refine ⟨_, rfl, t, _, 2, _, rfl, rfl, .of ht', rfl, _, _, rfl, rfl, _, rfl, ?_⟩
    refine ite2 (fun c => ?_) (fun c => ?_)
    · refine ⟨_, rfl, t, _, 2, _, rfl, rfl, .of ht', rfl, _, rfl, _, _, rfl, rfl, by omega, ?_⟩
      refine ⟨_, rfl, t, _, 2, _, rfl, rfl, .of ht', rfl, _, rfl, _, _, rfl, rfl, ⟨by omega, by omega⟩, _, rfl, t, _, 2, 2, rfl, rfl, ht', rfl, _, rfl, ?_⟩
      refine q _ _ (Int.fmod_nonneg_of_pos _ hm) (Int.fmod_lt_of_pos _ hm) (kp.trans (.put (by simp) ht' (fun _ z => nomatch z) fun _ _ z => nomatch z)) ⟨s, ns, i + 1, n'.fdiv m, j', upd_same, ?_, h63, ?_, hj'⟩
      · exact (hs0.kp kp).kp (Kp.put (ms := [t]) (by simp) ht' (fun _ z => nomatch z) (fun _ _ z => nomatch z))
      · exact Int.fdiv_nonneg hn' (by omega)
    · refine ⟨fun σ2 H2 => H2 = H' ∧ ∃ c : Int, σ2 = [some (.ref t), some (.int m), some (.ref s), none, some (.int c), none], ?_, ?_⟩
      · refine ⟨_, rfl, s, _, rfl, .inl hs1, _, _, rfl, rfl, _, rfl, ?_⟩
        refine ite2 (fun c2 => ?_) (fun c2 => ⟨rfl, 0, rfl⟩)
        have c2' : (0 : Int) < ((ns.map V.int).length : Nat) := of_decide_eq_true c2
        have hl : (ns.map V.int).length = ns.length := List.length_map _
        have h0 := Int.fmod_nonneg_of_pos (i + 1) c2'
        have h1 := Int.fmod_lt_of_pos (i + 1) c2'
        have hx : ((i + 1).fmod ((ns.map V.int).length : Nat)).toNat < ns.length := by omega
        have hat : atI (ns.map V.int) ((i + 1).fmod ((ns.map V.int).length : Nat)) = some (.int ns[((i + 1).fmod ((ns.map V.int).length : Nat)).toNat]) := by
          have := atI_nat (xs := ns.map V.int) (j := ((i + 1).fmod ((ns.map V.int).length : Nat)).toNat) (v := .int ns[((i + 1).fmod ((ns.map V.int).length : Nat)).toNat]) (by rw [List.getElem?_map, List.getElem?_eq_getElem hx]; rfl)
          rw [← this]
          congr 1
          omega
        refine ⟨_, rfl, _, rfl, t, _, 1, _, rfl, rfl, .of ht', rfl, _, rfl, s, _, rfl, .inl hs1, _, _, rfl, rfl, by omega, s, _, _, _, rfl, rfl, hs1, hat, rfl, _, rfl⟩
      · rintro σ2 H2 ⟨rfl, c, rfl⟩
        refine ⟨_, rfl, _, _, rfl, rfl, by omega, _, _, rfl, rfl, .inr ⟨by decide, by decide⟩, _, rfl, t, _, 1, _, rfl, rfl, .of ht', rfl, _, _, rfl, rfl, .inr ⟨by decide, by decide⟩, _, _, rfl, rfl, _, _, rfl, rfl, _, _, rfl, rfl, by omega, ?_⟩
        have b0 : ∀ x : Int, 0 ≤ x.fmod 2147483629 ∧ x.fmod 2147483629 < 2147483629 := fun x => ⟨Int.fmod_nonneg_of_pos _ (by decide), Int.fmod_lt_of_pos _ (by decide)⟩
        refine ⟨_, rfl, _, rfl, _, _, rfl, rfl, _, _, rfl, rfl, .inl ⟨by have := b0 (c.fmod 2147483647 * 48271 + (i + 1) * 7919 + 12345); omega, by have := b0 (c.fmod 2147483647 * 48271 + (i + 1) * 7919 + 12345); omega⟩, _, _, rfl, rfl, by omega, ?_⟩
        refine ⟨_, rfl, _, _, rfl, rfl, .inr ⟨by decide, by decide⟩, _, _, rfl, rfl, by omega, _, rfl, _, _, rfl, rfl, by omega, ?_⟩
        exact q _ _ (Int.fmod_nonneg_of_pos _ hm) (Int.fmod_lt_of_pos _ hm) kp ⟨s, ns, i + 1, n', j', ht', hs0.kp kp, h63, hn', hj'⟩

/-- index, list of literals -/
theorem atI_of {α : Type} {xs : List α} {i : Int} {v : α} (h0 : 0 ≤ i) (h : xs[i.toNat]? = some v) : atI xs i = some v := by
  rw [← atI_nat h]
  congr 1
  omega
theorem atI_lt {α : Type} {xs : List α} {i : Int} (h0 : 0 ≤ i) (h : i < xs.length) : ∃ v, v ∈ xs ∧ atI xs i = some v := by
  have h1 : i.toNat < xs.length := by omega
  exact ⟨xs[i.toNat], List.getElem_mem h1, atI_of h0 (List.getElem?_eq_getElem h1)⟩

def pool : List Str := ["a", "ab", "abc", "b", "ba", "box", "end", "give", "part", "plain", "turn", "abcdefgh"]
def picks (s d m : Nat) : List Str := (List.range m).map fun k => pool.getD ((s + d * k) % 12) ""
theorem picks_nodup12 : ∀ s < 12, ∀ d ∈ [1, 5, 7, 11], (picks s d 12).Nodup := by decide +kernel
theorem picks_nodup {s d m : Nat} (hs : s < 12) (hd : d ∈ [1, 5, 7, 11]) (hm : m ≤ 12) : (picks s d m).Nodup := by
  have h := picks_nodup12 s hs d hd
  have e : picks s d m = (picks s d 12).take m := by
    unfold picks
    rw [← List.map_take, List.take_range, Nat.min_eq_left hm]
  rw [e]
  exact h.sublist (List.take_sublist _ _)
theorem picks_mem {s d m : Nat} {x : Str} (h : x ∈ picks s d m) : x ∈ pool := by
  obtain ⟨k, _, rfl⟩ := List.mem_map.mp h
  have h1 : (s + d * k) % 12 < pool.length := Nat.mod_lt _ (by decide)
  simp only [List.getD, List.getElem?_eq_getElem h1, Option.getD_some]
  exact List.getElem_mem h1
theorem picks_len (s d m : Nat) : (picks s d m).length = m := by simp [picks]
theorem picks_succ (s d m : Nat) : picks s d (m + 1) = picks s d m ++ [pool.getD ((s + d * m) % 12) ""] := by
  simp [picks, List.range_succ]
theorem pool_at (i : Int) (h0 : 0 ≤ i) (h : i < 12) : atI (pool.map V.str) i = some (.str (pool.getD i.toNat "")) := by
  refine atI_of h0 ?_
  have h1 : i.toNat < pool.length := by show i.toNat < 12; omega
  rw [List.getElem?_map, List.getElem?_eq_getElem h1]
  simp [List.getD, List.getElem?_eq_getElem h1]
def spNames (K : PySem.W.Frag) : Sp := fun vs H Q _ => ∃ (t : Addr) (m : Nat), vs = [.ref t, .int m] ∧ m ≤ 12 ∧ Tp K H t ∧
  ∀ p (xs : List Str) H', xs.length = m → (xs.Nodup ∧ ∀ x ∈ xs, x ∈ pool) → Kp [t] H H' → Tp K H' t → H p = none → H' p = some (.lst (xs.map V.str)) → Q (.ref p) H'
theorem sc_law_names : FnScope ["_law_tape_here", "_law_many", "_law_pool", "_law_start", "_law_stride", "_law_k"] ["_law_tape_here", "_law_many"] (defScope (Vh.top 6)) := ⟨rfl, rfl, rfl, by decide +kernel, rfl, by decide +kernel, by decide +kernel⟩
theorem ok_names (F : Fun K "_law_names" "_law_names" (Vh.top 6) f fd) (B : Blt mg) (C_law_draw : Cl P w K mg base k "_law_draw" (spDraw K)) : FnOk P w K mg base CX0 (k + 1) f fd ["_law_tape_here", "_law_many"] (spNames K) := by
  refine F.ok sc_law_names (fun vs H Q E h => ?_) (fun cdv A outer s H vs Q E hr h => ?_)
  · obtain ⟨t, m, rfl, _⟩ := h
    rfl
  obtain ⟨t, m, rfl, hm, hT, q⟩ := h
  refine ⟨_, (pss_cons (ps_set (i := 2) sc_law_names.nd rfl (Or.inr rfl) (pe_lst (pa_cons pe_str (pa_cons pe_str (pa_cons pe_str (pa_cons pe_str (pa_cons pe_str (pa_cons pe_str (pa_cons pe_str (pa_cons pe_str (pa_cons pe_str (pa_cons pe_str (pa_cons pe_str (pa_cons pe_str pa_nil))))))))))))))
  (pss_cons (ps_set (i := 3) sc_law_names.nd rfl (Or.inr rfl) (pe_cl C_law_draw hr (by rfl) (pa_cons (pv 0) (pa_cons pe_int pa_nil))))
  (pss_cons (ps_set (i := 4) sc_law_names.nd rfl (Or.inr rfl) (pe_ix ix_list (pe_lst (pa_cons pe_int (pa_cons pe_int (pa_cons pe_int (pa_cons pe_int pa_nil))))) (pe_cl C_law_draw hr (by rfl) (pa_cons (pv 0) (pa_cons pe_int pa_nil))) (fun _ _ => rfl)))
  (pss_one (ps_ret (pe_lc (own := [("_law_k", 5)]) (g := (gName 5)) (by rfl) sc_law_names.nd (pi_range1 (by rfl) B.range_ (pa_cons (pv 1) pa_nil)) (blkOk_by (own := [("_law_k", 5)]) (N := ["_law_tape_here", "_law_many", "_law_pool", "_law_start", "_law_stride", "_law_k"]) (sc := defScope (Vh.top 6)) (by decide +kernel)) (fun _ _ _ _ _ => (pg_name (i := 5) sc_law_names.nd rfl (.inl rfl))) (fun _ _ _ _ _ => pts_nil) (fun _ _ _ _ _ => (pe_ix (ix_listK (K := K)) (pv 2) (pe_op op_modN (pe_op op_add (pv 3) (pe_op op_mul (pv 4) (pv 5))) pe_int) (fun _ _ => rfl))))))))), ?_⟩
  refine ⟨by decide, fun d hd => ?_⟩
  have s1 : Same H (upd H d (.lst (pool.map V.str))) := same_new hd _
  refine ⟨_, rfl, t, 12, rfl, by decide, by decide, hT.same s1, fun a H1 a0 a1 k1 T1 => ?_⟩
  have hdt : d ≠ t := fun e => by obtain ⟨_, _, _, _, _, e1, _⟩ := hT; rw [← e, hd] at e1; cases e1
  have d1 : H1 d = some (.lst (pool.map V.str)) := k1.at1 hdt upd_same
  refine ⟨by decide, fun l hl => ?_⟩
  refine ⟨_, rfl, t, 4, rfl, by decide, by decide, T1.same (same_new hl _), fun b H2 b0 b1 k2 T2 => ?_⟩
  have hlt : l ≠ t := fun e => by obtain ⟨_, _, _, _, _, e1, _⟩ := T1; rw [← e, hl] at e1; cases e1
  have l2 : H2 l = some (.lst [.int 1, .int 5, .int 7, .int 11]) := k2.at1 hlt upd_same
  have d2 : H2 d = some (.lst (pool.map V.str)) := k2.at1 hdt (by rw [upd_ne (ne_of_none d1 hl)]; exact d1)
  have kH : Kp [t] H H2 := (Kp.same s1).trans (k1.trans ((Kp.new hl).trans k2))
  obtain ⟨c, hc, e⟩ : ∃ c : Nat, c ∈ [1, 5, 7, 11] ∧ atI [V.int 1, .int 5, .int 7, .int 11] b = some (.int c) := by
    have : b = 0 ∨ b = 1 ∨ b = 2 ∨ b = 3 := by omega
    rcases this with rfl | rfl | rfl | rfl
    · exact ⟨1, by decide, rfl⟩
    · exact ⟨5, by decide, rfl⟩
    · exact ⟨7, by decide, rfl⟩
    · exact ⟨11, by decide, rfl⟩
  refine ⟨l, _, b, _, rfl, rfl, .of l2, e, ?_⟩
  refine ⟨_, rfl, (m : Int), rfl, by omega, by omega, fun D hD => ?_⟩
  have an : a = (a.toNat : Int) := by omega
  refine lc_range (lo := 0) (n := (m : Int).toNat) (fun i H3 => Kp [D] H2 H3 ∧ H3 D = some (.lst ((picks a.toNat c i).map V.str))) ⟨.new hD, upd_same⟩ (fun i H3 hi hP => ?_) fun H3 hP => ?_
  · obtain ⟨k3, e3⟩ := hP
    have d3 : H3 d = some (.lst (pool.map V.str)) := k3.at1 (ne_of_none d2 hD) d2
    have hx : 0 ≤ (a + (c : Int) * (0 + (i : Int))).fmod 12 := Int.fmod_nonneg_of_pos _ (by decide)
    have hy : (a + (c : Int) * (0 + (i : Int))).fmod 12 < 12 := Int.fmod_lt_of_pos _ (by decide)
    refine ⟨rfl, ?_⟩
    refine ⟨_, rfl, _, rfl, _, rfl, _, rfl, _, _, rfl, rfl, .inr ?_, _, _, rfl, rfl, _, _, rfl, rfl, by omega, d, _, _, _, rfl, rfl, .of d3, pool_at _ hx hy, _, e3, ?_, k3.trans (.put (by simp) e3 (fun _ z => nomatch z) fun _ _ z => nomatch z), ?_⟩
    · constructor <;> omega
    · rw [List.length_map, picks_len]
      exact small1000 (by omega)
    · rw [upd_same, picks_succ, List.map_append]
      have e5 : ∀ A : Nat, (((A : Int) + (c : Int) * (0 + (i : Int))).fmod 12).toNat = (A + c * i) % 12 := fun A => by
        rw [Int.fmod_eq_emod_of_nonneg _ (by decide), Int.zero_add]
        norm_cast
      have e4 := e5 a.toNat
      rw [← an] at e4
      rw [e4]
      rfl
  · obtain ⟨k3, e3⟩ := hP
    have hDt : D ≠ t := fun e => by obtain ⟨_, _, _, _, _, e1, _⟩ := T2; rw [← e, hD] at e1; cases e1
    have s3 : Same H2 H3 := k3.nil fun b hb => by rw [List.mem_singleton.mp hb]; exact hD
    refine q D _ H3 ?_ ⟨picks_nodup (by omega) hc (by omega), fun x hx => picks_mem hx⟩ (kH.trans (.same s3)) (T2.same s3) (kH.frs _ hD) e3
    rw [picks_len]
    omega
end
end Vw

set_option maxHeartbeats 4000000
/-! what is drawn: reckonings, keys, pairs -/
namespace Vw
open PySem PySem.Spec PyProof.Rows L2
open C8 (pss_cut tCut)

/-- what stood before is kept where only a thing that is new since then is written -/
theorem Kp.putN {ms : List Addr} {H H' : Hp} {D : Addr} {o : HO} (k : Kp ms H H') (hD : H D = none) : Kp ms H (upd H' D o) where
  all := fun b u n e => by rw [upd_ne (ne_of_none e hD)]; exact k.all b u n e
  tup := fun b xs e => by
    have ne : b ≠ D := by rcases e with e | ⟨w, e⟩ <;> exact ne_of_none e hD
    rcases k.tup b xs e with e | ⟨w, e⟩
    · exact .inl (by rw [upd_ne ne]; exact e)
    · exact .inr ⟨w, by rw [upd_ne ne]; exact e⟩
  frz := fun b w xs e => by rw [upd_ne (ne_of_none e hD)]; exact k.frz b w xs e
  frs := fun b e => by
    by_cases q : b = D
    · rw [q]; exact hD
    · rw [upd_ne q] at e; exact k.frs b e
theorem catA {K : PySem.W.Frag} {a b : Addr} {xs ys : List V} {H : Hp} {Q : VK} (h1 : SqT K H a xs) (h2 : SqT K H b ys) (n1 : xs ≠ []) (n2 : ys ≠ []) (hz : xs.length + ys.length ≤ sizeLine) (q : ∀ p, H p = none → Q (.ref p) (upd H p (.tup (xs ++ ys)))) :
    rCatA K (.ref a) (.ref b) H Q := ⟨a, b, xs, ys, rfl, rfl, h1, h2, hz, fun e => absurd e n1, fun _ e => absurd e n2, fun _ _ => q⟩
theorem szb {n : Nat} (h : Nat.ble n 1000 = true := by rfl) : n ≤ sizeLine := Nat.le_of_lt (small1000 (Nat.le_of_ble_eq_true h))
theorem sz (n : Nat) (h : n ≤ 1000) : n ≤ sizeLine := Nat.le_of_lt (small1000 h)

def Sm (i : Int) : Prop := -1000000000 ≤ i ∧ i ≤ 1000000000
/-- reckonings of the names ts of turns, of depth n at most -/
inductive Rk (ts : List Str) : Nat → D → Prop
  | num {n i} : Sm i → Rk ts n (.tup [.str "num", .int i])
  | turn {n a} : a ∈ ts → Rk ts n (.tup [.str "turn", .str a])
  | ask {n} {w a : Str} : w = "take" ∨ w = "box" ∨ w = "down" → a ∈ pool → Rk ts n (.tup [.str w, .str a])
  | bin {n} {w : Str} {r s} : w = "add" ∨ w = "times" ∨ w = "less" → Rk ts n r → Rk ts n s → Rk ts (n + 1) (.tup [.str w, r, s])
  | pick {n r s t} : Rk ts n r → Rk ts n s → Rk ts n t → Rk ts (n + 1) (.tup [.str "pick", r, s, t])
theorem Rk.up {ts : List Str} {n m : Nat} {d : D} (h : Rk ts n d) : n ≤ m → Rk ts m d := by
  induction h generalizing m with
  | num h => exact fun _ => .num h
  | turn h => exact fun _ => .turn h
  | ask h h2 => exact fun _ => .ask h h2
  | bin h _ _ i1 i2 =>
    intro hm
    obtain ⟨m, rfl⟩ : ∃ m', m = m' + 1 := ⟨m - 1, by omega⟩
    exact .bin h (i1 (by omega)) (i2 (by omega))
  | pick _ _ _ i1 i2 i3 =>
    intro hm
    obtain ⟨m, rfl⟩ : ∃ m', m = m' + 1 := ⟨m - 1, by omega⟩
    exact .pick (i1 (by omega)) (i2 (by omega)) (i3 (by omega))

/-- the kit at c -/
def lastV : Option Str → V
  | none => .non
  | some x => .str x
def kitL (bl rl : Addr) (l p e : Int) (last : Option Str) : List (Key × V) :=
  [(.inr "boxes", .ref bl), (.inr "rest", .ref rl), (.inr "left", .int l), (.inr "parts", .int p), (.inr "eaches", .int e), (.inr "last", lastV last)]
structure Kit (H : Hp) (c : Addr) (bs rs : Addr × List Str) (l p e : Int) (last : Option Str) : Prop where
  ex : H c = some (.dK (kitL bs.1 rs.1 l p e last)) ∧ H bs.1 = some (.lst (bs.2.map V.str)) ∧ H rs.1 = some (.lst (rs.2.map V.str))
  bp : ∀ x ∈ bs.2, x ∈ pool
theorem Tp.ne {K : PySem.W.Frag} {H : Hp} {t b : Addr} {o : HO} (T : Tp K H t) (h : H b = some o) (n : ∀ s i n j, o ≠ .lst [.ref s, .int i, .int n, .int j]) : b ≠ t := by
  obtain ⟨s, ns, i, m, j, e, _⟩ := T
  exact ne_of h e (n s i m j)
theorem Tp.new {K : PySem.W.Frag} {H : Hp} {t b : Addr} (T : Tp K H t) (h : H b = none) : b ≠ t := by
  obtain ⟨s, ns, i, m, j, e, _⟩ := T
  exact (ne_of_none e h).symm
theorem Tp.new' {K : PySem.W.Frag} {H : Hp} {t b : Addr} {o : HO} (T : Tp K H t) (h : H b = some o) (n : ∀ s i n j, o ≠ .lst [.ref s, .int i, .int n, .int j]) : b ≠ t := T.ne h n
theorem strs2 {x y : Str} {s : Addr} {i n j : Int} : HO.lst [.str x, .str y] ≠ .lst [.ref s, .int i, .int n, .int j] := fun z => by simp at z
theorem strs_ne (xs : List Str) (s : Addr) (r : List V) : HO.lst (xs.map V.str) ≠ .lst (.ref s :: r) := by
  cases xs with
  | nil => intro z; cases z
  | cons a b => intro z; simp at z
theorem Tp.nes {K : PySem.W.Frag} {H : Hp} {t b : Addr} {xs : List Str} (T : Tp K H t) (h : H b = some (.lst (xs.map V.str))) : b ≠ t := T.ne h fun s i n j => strs_ne xs s _
theorem Kit.kp {K : PySem.W.Frag} {H H' : Hp} {t c : Addr} {bs rs : Addr × List Str} {l p e : Int} {last : Option Str} (h : Kit H c bs rs l p e last) (T : Tp K H t) (k : Kp [t] H H') : Kit H' c bs rs l p e last := by
  obtain ⟨e1, e2, e3⟩ := h.ex
  exact ⟨⟨k.at1 (T.ne e1 fun _ _ _ _ z => nomatch z) e1, k.at1 (T.nes e2) e2, k.at1 (T.nes e3) e3⟩, h.bp⟩
theorem kit_boxes {bl rl : Addr} {l p e : Int} {last : Option Str} : valV (kitL bl rl l p e last) (.inr "boxes") = some (.ref bl) := by rfl
theorem kit_rest {bl rl : Addr} {l p e : Int} {last : Option Str} : valV (kitL bl rl l p e last) (.inr "rest") = some (.ref rl) := by rfl
theorem kit_left {bl rl : Addr} {l p e : Int} {last : Option Str} : valV (kitL bl rl l p e last) (.inr "left") = some (.int l) := by rfl
theorem kit_parts {bl rl : Addr} {l p e : Int} {last : Option Str} : valV (kitL bl rl l p e last) (.inr "parts") = some (.int p) := by rfl
theorem kit_eaches {bl rl : Addr} {l p e : Int} {last : Option Str} : valV (kitL bl rl l p e last) (.inr "eaches") = some (.int e) := by rfl
theorem kit_last {bl rl : Addr} {l p e : Int} {last : Option Str} : valV (kitL bl rl l p e last) (.inr "last") = some (lastV last) := by rfl
theorem kit_get {H : Hp} {c bl rl : Addr} {l p e : Int} {last : Option Str} {x : Str} {v : V} (h : H c = some (.dK (kitL bl rl l p e last))) (hv : valV (kitL bl rl l p e last) (.inr x) = some v) : DGet H c (.str x) (some v) := by
  rw [← hv]
  exact DGet.k (k := Sum.inr x) h

section
variable {P : Program} {w : World} {K : PySem.W.Frag} {mg : Str → Option Value} {base : Heap} {f : Addr} {fd : FuncData} {k : Nat}
theorem sp_none {x : Str} {f : Addr} {fd : FuncData} {ps : List Str} {sp : Sp} (no : ∀ vs H Q E, ¬ sp vs H Q E) : FnOk P w K mg base CX0 0 f fd ps sp :=
  ⟨fun vs H Q E h => absurd h (no vs H Q E), fun A outer s H args us vs Q E _ _ _ _ h => absurd h (no vs H Q E)⟩

def spNumber (K : PySem.W.Frag) : Sp := fun vs H Q _ => ∃ (t : Addr), vs = [.ref t] ∧ Tp K H t ∧ ∀ i H', Sm i → Kp [t] H H' → Tp K H' t → Q (.int i) H'
theorem sc_law_number : FnScope ["_law_tape_here"] ["_law_tape_here"] (defScope (Vh.top 7)) := ⟨rfl, rfl, rfl, by decide +kernel, rfl, by decide +kernel, by decide +kernel⟩
theorem ok_number (F : Fun K "_law_number" "_law_number" (Vh.top 7) f fd) (B : Blt mg) (C_law_draw : Cl P w K mg base k "_law_draw" (spDraw K)) : FnOk P w K mg base CX0 (k + 1) f fd ["_law_tape_here"] (spNumber K) := by
  refine F.ok sc_law_number (fun vs H Q E h => ?_) (fun cdv A outer s H vs Q E hr h => ?_)
  · obtain ⟨t, rfl, _⟩ := h
    rfl
  obtain ⟨t, rfl, hT, q⟩ := h
  refine ⟨_, (pss_cons (ps_if (pt_cmpR op_gt (pe_cl C_law_draw hr (by rfl) (pa_cons (pv 0) (pa_cons pe_int pa_nil))) pe_int (nomark _)) (pss_one (ps_ret (pe_op op_sub (pe_cl C_law_draw hr (by rfl) (pa_cons (pv 0) (pa_cons pe_int pa_nil))) pe_int))) pss_nil)
  (pss_one (ps_ret (pe_ix ix_list (pe_lst (pa_cons (pe_op op_pow pe_int pe_int) (pa_cons (pe_un un_neg (pe_op op_pow pe_int pe_int)) (pa_cons pe_int (pa_cons (pe_un un_neg pe_int) pa_nil))))) (pe_cl C_law_draw hr (by rfl) (pa_cons (pv 0) (pa_cons pe_int pa_nil))) (fun _ _ => rfl))))), ?_⟩
  refine ⟨_, rfl, t, 8, rfl, by decide, by decide, hT, fun a H1 a0 a1 k1 T1 => ?_⟩
  refine ⟨_, _, rfl, rfl, _, rfl, ?_⟩
  refine ite2 (fun c => ?_) (fun c => ?_)
  · refine ⟨_, rfl, t, 9, rfl, by decide, by decide, T1, fun b H2 b0 b1 k2 T2 => ?_⟩
    refine ⟨_, _, rfl, rfl, ?_⟩
    exact q _ _ (by unfold Sm; omega) (k1.trans k2) T2
  · refine ⟨_, _, rfl, rfl, ⟨by decide, by decide, by decide⟩, _, _, rfl, rfl, ⟨by decide, by decide, by decide⟩, _, rfl, _, rfl, by decide, fun l hl => ?_⟩
    refine ⟨_, rfl, t, 4, rfl, by decide, by decide, T1.same (same_new hl _), fun b H2 b0 b1 k2 T2 => ?_⟩
    have l2 := k2.at1 (T1.new hl) upd_same
    have hb : b = 0 ∨ b = 1 ∨ b = 2 ∨ b = 3 := by omega
    have kk : Kp [t] H H2 := k1.trans ((Kp.new hl).trans k2)
    rcases hb with rfl | rfl | rfl | rfl
    · exact ⟨l, _, _, _, rfl, rfl, .of l2, rfl, q _ _ (by unfold Sm; decide) kk T2⟩
    · exact ⟨l, _, _, _, rfl, rfl, .of l2, rfl, q _ _ (by unfold Sm; decide) kk T2⟩
    · exact ⟨l, _, _, _, rfl, rfl, .of l2, rfl, q _ _ (by unfold Sm; decide) kk T2⟩
    · exact ⟨l, _, _, _, rfl, rfl, .of l2, rfl, q _ _ (by unfold Sm; decide) kk T2⟩

def spLeaf (K : PySem.W.Frag) : Sp := fun vs H Q _ => ∃ (t c : Addr) (tv : V) (bs rs : Addr × List Str) (ts : List Str) (l p e : Int) (last : Option Str), vs = [.ref t, .ref c, tv] ∧ Tp K H t ∧ Kit H c bs rs l p e last ∧ bs.2.length ≤ 100 ∧ ts.length ≤ 100 ∧ Dat H tv (.tup (ts.map D.str)) ∧
  ∀ v d H', Rk ts 0 d → Dat H' v d → Kp [t] H H' → Tp K H' t → Q v H'
theorem sc_law_leaf : FnScope ["_law_tape_here", "_law_kit", "_law_turns", "_law_way"] ["_law_tape_here", "_law_kit", "_law_turns"] (defScope (Vh.top 8)) := ⟨rfl, rfl, rfl, by decide +kernel, rfl, by decide +kernel, by decide +kernel⟩
theorem ok_leaf (F : Fun K "_law_leaf" "_law_leaf" (Vh.top 8) f fd) (B : Blt mg) (C_law_draw : Cl P w K mg base k "_law_draw" (spDraw K)) (C_law_number : Cl P w K mg base k "_law_number" (spNumber K)) : FnOk P w K mg base CX0 (k + 1) f fd ["_law_tape_here", "_law_kit", "_law_turns"] (spLeaf K) := by
  refine F.ok sc_law_leaf (fun vs H Q E h => ?_) (fun cdv A outer s H vs Q E hr h => ?_)
  · obtain ⟨t, c, tv, _, _, _, _, _, _, _, rfl, _⟩ := h
    rfl
  obtain ⟨t, c, tv, bs, rs, ts, l, p, e, last, rfl, hT, hK, hb, hts, hd, q⟩ := h
  refine ⟨_, (pss_cons (ps_set (i := 3) sc_law_leaf.nd rfl (Or.inl rfl) (pe_cl C_law_draw hr (by rfl) (pa_cons (pv 0) (pa_cons pe_int pa_nil))))
  (pss_cons (ps_if (pt_cmpR op_eq (pv 3) pe_int (nomark _)) (pss_one (ps_ret (pe_tup (pa_cons pe_str (pa_cons (pe_ix ix_list (pe_lst (pa_cons pe_str (pa_cons pe_str (pa_cons pe_str pa_nil)))) (pe_cl C_law_draw hr (by rfl) (pa_cons (pv 0) (pa_cons pe_int pa_nil))) (fun _ _ => rfl)) pa_nil))))) pss_nil)
  (pss_cons (ps_if (pt_cmpR op_eq (pv 3) pe_int (nomark _)) (pss_one (ps_ret (pe_tup (pa_cons pe_str (pa_cons (pe_ix ix_list (pe_lst (pa_cons pe_str (pa_cons pe_str (pa_cons pe_str pa_nil)))) (pe_cl C_law_draw hr (by rfl) (pa_cons (pv 0) (pa_cons pe_int pa_nil))) (fun _ _ => rfl)) pa_nil))))) pss_nil)
  (pss_cut (ps_if (PW.pt (pw_and (pt_cmpR op_lt (pv 3) pe_int (nomark _)) (pw_and1 (pt_cmpR op_gt (pe_callB call_len_seq (by rfl) B.len_ (by decide +kernel) (pa_cons (pe_dget (hu_of hr) (pv 1) pe_str (fun _ _ => rfl)) pa_nil)) pe_int (nomark _))))) (pss_one (ps_ret (pe_tup (pa_cons pe_str (pa_cons (pe_ix ix_list (pe_dget (hu_of hr) (pv 1) pe_str (fun _ _ => rfl)) (pe_cl C_law_draw hr (by rfl) (pa_cons (pv 0) (pa_cons (pe_callB call_len_seq (by rfl) B.len_ (by decide +kernel) (pa_cons (pe_dget (hu_of hr) (pv 1) pe_str (fun _ _ => rfl)) pa_nil)) pa_nil))) (fun _ _ => rfl)) pa_nil))))) pss_nil)
  (pss_cut (ps_if (PW.pt (pw_and (pt_cmpR op_eq (pv 3) pe_int (nomark _)) (pw_and1 (pt_cmpR op_gt (pe_callB call_len_seq (by rfl) B.len_ (by decide +kernel) (pa_cons (pv 2) pa_nil)) pe_int (nomark _))))) (pss_one (ps_ret (pe_tup (pa_cons pe_str (pa_cons (pe_ix ix_tup (pv 2) (pe_cl C_law_draw hr (by rfl) (pa_cons (pv 0) (pa_cons (pe_callB call_len_seq (by rfl) B.len_ (by decide +kernel) (pa_cons (pv 2) pa_nil)) pa_nil))) (fun _ _ => rfl)) pa_nil))))) pss_nil)
  (pss_one (ps_ret (pe_tup (pa_cons pe_str (pa_cons (pe_cl C_law_number hr (by rfl) (pa_cons (pv 0) pa_nil)) pa_nil)))))))))), ?_⟩
  refine ⟨_, rfl, t, 6, rfl, by decide, by decide, hT, fun a H1 a0 a1 k1 T1 => ?_⟩
  have three : ∀ (H2 : Hp) (l : Addr) (b : Int), H2 l = some (.lst [.str "a", .str "ab", .str "b"]) → 0 ≤ b → b < 3 → ∃ x : Str, atI [V.str "a", .str "ab", .str "b"] b = some (.str x) ∧ x ∈ pool := fun H2 l b h h0 h1 => by
    have : b = 0 ∨ b = 1 ∨ b = 2 := by omega
    rcases this with rfl | rfl | rfl <;> exact ⟨_, rfl, by decide +kernel⟩
  -- two texts, as data
  have fin : ∀ (w x : Str) (H2 : Hp) (u : Addr), Rk ts 0 (.tup [.str w, .str x]) → Kp [t] H H2 → Tp K H2 t → H2 u = none → Q (.ref u) (upd H2 u (.tup [.str w, .str x])) := fun w x H2 u hr k T hu =>
    q _ _ _ hr (.made hu (.cons .str (.cons .str .nil))) (k.trans (.new hu)) (T.same (same_new hu _))
  refine ⟨_, rfl, rfl, _, rfl, ?_⟩
  refine ite2 (fun _ => ?_) (fun _ => ?_)
  · refine ⟨by decide, fun l hl => ?_⟩
    refine ⟨_, rfl, t, 3, rfl, by decide, by decide, T1.same (same_new hl _), fun b H2 b0 b1 k2 T2 => ?_⟩
    have l2 := k2.at1 (T1.new hl) upd_same
    obtain ⟨x, hx, hp⟩ := three _ _ _ l2 b0 b1
    refine ⟨l, _, _, _, rfl, rfl, .of l2, hx, szb, fun u hu => fin _ _ _ _ (.ask (.inl rfl) hp) (k1.trans ((Kp.new hl).trans k2)) T2 hu⟩
  refine ⟨_, rfl, rfl, _, rfl, ?_⟩
  refine ite2 (fun _ => ?_) (fun _ => ?_)
  · refine ⟨by decide, fun l hl => ?_⟩
    refine ⟨_, rfl, t, 3, rfl, by decide, by decide, T1.same (same_new hl _), fun b H2 b0 b1 k2 T2 => ?_⟩
    have l2 := k2.at1 (T1.new hl) upd_same
    obtain ⟨x, hx, hp⟩ := three _ _ _ l2 b0 b1
    refine ⟨l, _, _, _, rfl, rfl, .of l2, hx, szb, fun u hu => fin _ _ _ _ (.ask (.inr (.inr rfl)) hp) (k1.trans ((Kp.new hl).trans k2)) T2 hu⟩
  have K1 := hK.kp hT k1
  obtain ⟨e1, e2, e3⟩ := K1.ex
  obtain ⟨ta, txs, rfl, et, dt⟩ := Dat.tup_inv (k1.dat hd)
  have hl2 : txs.length = ts.length := by rw [dt.len, List.length_map]
  refine ⟨fun σ' H' => σ' = [some (.ref t), some (.ref c), some (.ref ta), some (.int a)] ∧ H1 = H', ?_, ?_⟩
  · refine ⟨_, rfl, _, _, rfl, rfl, _, rfl, ?_⟩
    refine ite2 (fun c1 => ?_) (fun c1 => iteF ⟨rfl, rfl⟩)
    refine ⟨_, rfl, c, _, rfl, kit_get e1 kit_boxes, bs.1, _, rfl, .inl (.of e2), _, _, rfl, rfl, _, rfl, ?_⟩
    refine ite2 (fun c2 => ?_) (fun c2 => ⟨rfl, rfl⟩)
    have c2' : (0 : Int) < ((bs.2.map V.str).length : Nat) := of_decide_eq_true c2
    rw [List.length_map] at c2'
    refine ⟨_, rfl, c, _, rfl, kit_get e1 kit_boxes, _, rfl, _, rfl, c, _, rfl, kit_get e1 kit_boxes, bs.1, _, rfl, .inl (.of e2), t, _, rfl, ?_, ?_, T1, fun b H2 b0 b1 k2 T2 => ?_⟩
    · rw [List.length_map]; omega
    · rw [List.length_map]; omega
    have f2 := k2.at1 (T1.nes e2) e2
    obtain ⟨x, hm, hx⟩ := atI_lt (xs := bs.2.map V.str) b0 b1
    obtain ⟨y, hy, rfl⟩ := List.mem_map.mp hm
    exact ⟨bs.1, _, _, _, rfl, rfl, .of f2, hx, szb, fun u hu => fin _ _ _ _ (.ask (.inr (.inl rfl)) (K1.bp _ hy)) (k1.trans k2) T2 hu⟩
  · rintro _ _ ⟨rfl, rfl⟩
    refine ⟨fun σ' H' => σ' = [some (.ref t), some (.ref c), some (.ref ta), some (.int a)] ∧ H1 = H', ?_, ?_⟩
    · refine ⟨_, rfl, rfl, _, rfl, ?_⟩
      refine ite2 (fun c1 => ?_) (fun c1 => iteF ⟨rfl, rfl⟩)
      refine ⟨_, rfl, ta, _, rfl, .inr (.inl et), _, _, rfl, rfl, _, rfl, ?_⟩
      refine ite2 (fun c2 => ?_) (fun c2 => ⟨rfl, rfl⟩)
      have c2' : (0 : Int) < (txs.length : Nat) := of_decide_eq_true c2
      refine ⟨_, rfl, _, rfl, _, rfl, ta, _, rfl, .inr (.inl et), t, _, rfl, c2', by omega, T1, fun b H2 b0 b1 k2 T2 => ?_⟩
      obtain ⟨x, hm, hx⟩ := atI_lt (xs := txs) b0 b1
      obtain ⟨i, hi⟩ := List.getElem?_of_mem hm
      obtain ⟨d, hd1, hd2⟩ := dt.at hi
      obtain ⟨y, hy, rfl⟩ := List.mem_map.mp (List.mem_of_getElem? hd1)
      obtain rfl := hd2.str_inv
      exact ⟨ta, _, _, _, rfl, rfl, .inl (k2.tup _ _ et), hx, szb, fun u hu => fin _ _ _ _ (.turn hy) (k1.trans k2) T2 hu⟩
    · rintro _ _ ⟨rfl, rfl⟩
      refine ⟨_, rfl, t, rfl, T1, fun i H2 hi k2 T2 => ?_⟩
      refine ⟨szb, fun u hu => ?_⟩
      exact q _ _ _ (.num hi) (.made hu (.cons .str (.cons .int .nil))) (k1.trans (k2.trans (.new hu))) (T2.same (same_new hu _))
end
end Vw

set_option maxHeartbeats 4000000
/-! sums, keys, pairs, hands, part lines -/
namespace Vw
open PySem PySem.Spec PyProof.Rows L2
open C8 (pss_cut tCut)

/-- what the drawing of a reckoning leans on -/
structure Gc (K : PySem.W.Frag) (H : Hp) (t c : Addr) (tv : V) (bs rs : Addr × List Str) (ts : List Str) (l p e : Int) (last : Option Str) : Prop where
  T : Tp K H t
  Kt : Kit H c bs rs l p e last
  hb : bs.2.length ≤ 100
  hts : ts.length ≤ 100
  hd : Dat H tv (.tup (ts.map D.str))
theorem Gc.kp {K : PySem.W.Frag} {H H' : Hp} {t c : Addr} {tv : V} {bs rs : Addr × List Str} {ts : List Str} {l p e : Int} {last : Option Str} (g : Gc K H t c tv bs rs ts l p e last) (k : Kp [t] H H') (T : Tp K H' t) : Gc K H' t c tv bs rs ts l p e last :=
  ⟨T, g.Kt.kp g.T k, g.hb, g.hts, k.dat g.hd⟩
theorem Gc.same {K : PySem.W.Frag} {H H' : Hp} {t c : Addr} {tv : V} {bs rs : Addr × List Str} {ts : List Str} {l p e : Int} {last : Option Str} (g : Gc K H t c tv bs rs ts l p e last) (s : Same H H') : Gc K H' t c tv bs rs ts l p e last :=
  g.kp (.same s) (g.T.same s)
theorem Gc.new {K : PySem.W.Frag} {H : Hp} {t c a : Addr} {tv : V} {bs rs : Addr × List Str} {ts : List Str} {l p e : Int} {last : Option Str} (g : Gc K H t c tv bs rs ts l p e last) (h : H a = none) (o : HO) : Gc K (upd H a o) t c tv bs rs ts l p e last :=
  g.same (same_new h o)
/-- a list is written anew -/
theorem Kp.lst {H : Hp} {D : Addr} {xs : List V} (e : H D = some (.lst xs)) (o : HO) : Kp [D] H (upd H D o) := .put (by simp) e (fun _ z => nomatch z) fun _ _ z => nomatch z
theorem Tp.lst {K : PySem.W.Frag} {H : Hp} {t D : Addr} {xs : List V} (T : Tp K H t) (e : H D = some (.lst xs)) (o : HO) (h : D ≠ t) : Tp K (upd H D o) t := T.kp (.lst e o) (by simpa using fun z => h z.symm)
theorem Dats.lst {H : Hp} {q : Addr} {ys : List V} {xs : List V} {ds : List D} (d : Dats H xs ds) (e : H q = some (.lst ys)) (o : HO) : Dats (upd H q o) xs ds := (Kp.lst e o).dats d

section
variable {P : Program} {w : World} {K : PySem.W.Frag} {mg : Str → Option Value} {base : Heap} {f : Addr} {fd : FuncData} {k : Nat}
def spSum (K : PySem.W.Frag) (n : Nat) : Sp := fun vs H Q _ => ∃ (t c : Addr) (tv : V) (bs rs : Addr × List Str) (ts : List Str) (l p e : Int) (last : Option Str) (m : Nat), vs = [.ref t, .ref c, tv, .int m] ∧ m < n ∧ Gc K H t c tv bs rs ts l p e last ∧
  ∀ v d H', Rk ts m d → Dat H' v d → Kp [t] H H' → Tp K H' t → Q v H'
theorem sc_law_sum : FnScope ["_law_tape_here", "_law_kit", "_law_turns", "_law_deep", "_law_way", "_law_word", "_law_many", "_law_k"] ["_law_tape_here", "_law_kit", "_law_turns", "_law_deep"] (defScope (Vh.top 9)) := ⟨rfl, rfl, rfl, by decide +kernel, rfl, by decide +kernel, by decide +kernel⟩
theorem ok_sum {n : Nat} (F : Fun K "_law_sum" "_law_sum" (Vh.top 9) f fd) (B : Blt mg) (C_law_draw : Cl P w K mg base k "_law_draw" (spDraw K)) (C_law_leaf : Cl P w K mg base k "_law_leaf" (spLeaf K))
    (C_law_sum : Cl P w K mg base k "_law_sum" (spSum K n)) : FnOk P w K mg base CX0 (k + 1) f fd ["_law_tape_here", "_law_kit", "_law_turns", "_law_deep"] (spSum K (n + 1)) := by
  refine F.ok sc_law_sum (fun vs H Q E h => ?_) (fun cdv A outer s H vs Q E hr h => ?_)
  · obtain ⟨t, c, tv, _, _, _, _, _, _, _, _, rfl, _⟩ := h
    rfl
  obtain ⟨t, c, tv, bs, rs, ts, l, p, e, last, m, rfl, hm, G, q⟩ := h
  refine ⟨_, (pss_cons (ps_set (i := 4) sc_law_sum.nd rfl (Or.inl rfl) (pe_cl C_law_draw hr (by rfl) (pa_cons (pv 0) (pa_cons pe_int pa_nil))))
  (pss_cut (ps_if (PW.pt (pw_or (pt_cmpR op_eq (pv 3) pe_int (nomark _)) (pw_or1 (pt_cmpR op_lt (pv 4) pe_int (nomark _))))) (pss_one (ps_ret (pe_cl C_law_leaf hr (by rfl) (pa_cons (pv 0) (pa_cons (pv 1) (pa_cons (pv 2) pa_nil)))))) pss_nil)
  (pss_cons (ps_set (i := 5) sc_law_sum.nd rfl (Or.inl rfl) (pe_ix ix_list (pe_lst (pa_cons pe_str (pa_cons pe_str (pa_cons pe_str (pa_cons pe_str pa_nil))))) (pe_op op_sub (pv 4) pe_int) (fun _ _ => rfl)))
  (pss_cons (ps_set (i := 6) sc_law_sum.nd rfl (Or.inl rfl) (pe_ix ix_list (pe_lst (pa_cons pe_int (pa_cons pe_int pa_nil))) (pe_callTy call_int1 (by rfl) B.int_ (by decide +kernel) (pa_cons (pe_cmpR op_eq (pv 5) pe_str (nomark _)) pa_nil)) (fun _ _ => rfl)))
  (pss_one (ps_ret (pe_op op_catA (pe_tup (pa_cons (pv 5) pa_nil)) (pe_callTy call_tuple_of (by rfl) B.tuple_ (by decide +kernel) (pa_cons (pe_lc (own := [("_law_k", 7)]) (g := (gName 7)) (by rfl) sc_law_sum.nd (pi_range1 (by rfl) B.range_ (pa_cons (pv 6) pa_nil)) (blkOk_by (own := [("_law_k", 7)]) (N := ["_law_tape_here", "_law_kit", "_law_turns", "_law_deep", "_law_way", "_law_word", "_law_many", "_law_k"]) (sc := defScope (Vh.top 9)) (by decide +kernel)) (fun _ _ _ _ _ => (pg_name (i := 7) sc_law_sum.nd rfl (.inl rfl))) (fun _ _ _ _ _ => pts_nil) (fun _ _ _ _ _ => (pe_cl C_law_sum hr (by rfl) (pa_cons (pv 0) (pa_cons (pv 1) (pa_cons (pv 2) (pa_cons (pe_op op_sub (pv 3) pe_int) pa_nil))))))) pa_nil))))))))), ?_⟩
  refine ⟨_, rfl, t, 8, rfl, by decide, by decide, G.T, fun a H1 a0 a1 k1 T1 => ?_⟩
  have G1 := G.kp k1 T1
  refine ⟨fun σ' H' => σ' = [some (.ref t), some (.ref c), some tv, some (.int m), some (.int a), none, none, none] ∧ H1 = H' ∧ m ≠ 0 ∧ 4 ≤ a, ?_, ?_⟩
  · refine ⟨_, rfl, rfl, _, rfl, ?_⟩
    have leaf : ∀ R : VK, (∀ v d H', Rk ts 0 d → Dat H' v d → Kp [t] H1 H' → Tp K H' t → R v H') → spLeaf K [.ref t, .ref c, tv] H1 R E0 := fun R z => ⟨t, c, tv, bs, rs, ts, l, p, e, last, rfl, G1.T, G1.Kt, G1.hb, G1.hts, G1.hd, z⟩
    refine ite2 (fun c1 => ?_) (fun c1 => ?_)
    · refine ⟨_, rfl, _, rfl, _, rfl, leaf _ fun v d H2 r hv k2 T2 => ?_⟩
      exact q _ _ _ (r.up (Nat.zero_le _)) hv (k1.trans k2) T2
    · refine ⟨_, rfl, _, _, rfl, rfl, _, rfl, ?_⟩
      refine ite2 (fun c2 => ?_) (fun c2 => ?_)
      · refine ⟨_, rfl, _, rfl, _, rfl, leaf _ fun v d H2 r hv k2 T2 => ?_⟩
        exact q _ _ _ (r.up (Nat.zero_le _)) hv (k1.trans k2) T2
      · have z1 : ¬ V.int (m : Int) = V.int 0 := of_decide_eq_false (Bool.eq_false_iff.mpr c1)
        have z2 : ¬ a < 4 := of_decide_eq_false (Bool.eq_false_iff.mpr c2)
        exact ⟨rfl, rfl, fun z => z1 (by rw [z]; rfl), by omega⟩
  rintro _ _ ⟨rfl, rfl, hm0, ha4⟩
  obtain ⟨wd, mn, x1, x2, hwd⟩ : ∃ (wd : Str) (mn : Nat), atI [V.str "add", .str "times", .str "less", .str "pick"] (a - 4) = some (.str wd) ∧ atI [V.int 2, .int 3] (if decide (V.str wd = V.str "pick") = true then 1 else 0) = some (.int mn) ∧
      ((mn = 2 ∧ (wd = "add" ∨ wd = "times" ∨ wd = "less")) ∨ (mn = 3 ∧ wd = "pick")) := by
    have : a = 4 ∨ a = 5 ∨ a = 6 ∨ a = 7 := by omega
    rcases this with rfl | rfl | rfl | rfl
    · exact ⟨"add", 2, rfl, by rfl, .inl ⟨rfl, .inl rfl⟩⟩
    · exact ⟨"times", 2, rfl, by rfl, .inl ⟨rfl, .inr (.inl rfl)⟩⟩
    · exact ⟨"less", 2, rfl, by rfl, .inl ⟨rfl, .inr (.inr rfl)⟩⟩
    · exact ⟨"pick", 3, rfl, by rfl, .inr ⟨rfl, rfl⟩⟩
  refine ⟨szb, fun l1 hl1 => ?_⟩
  refine ⟨_, rfl, _, _, rfl, rfl, l1, _, _, _, rfl, rfl, .of upd_same, x1, ?_⟩
  refine ⟨szb, fun l2 hl2 => ?_⟩
  refine ⟨_, rfl, rfl, .inr ⟨_, rfl, l2, _, _, _, rfl, rfl, .of upd_same, x2, ?_⟩⟩
  refine ⟨_, rfl, szb, fun u hu => ?_⟩
  refine ⟨_, rfl, mn, rfl, by omega, by omega, fun D hD => ?_⟩
  have G2 := ((G1.new hl1 (.lst [.str "add", .str "times", .str "less", .str "pick"])).new hl2 (.lst [.int 2, .int 3])).new hu (.tup [.str wd])
  have hut := Kp.trans (Kp.trans (Kp.new (ms := [t]) (o := HO.lst [.str "add", .str "times", .str "less", .str "pick"]) hl1) (Kp.new (o := .lst [.int 2, .int 3]) hl2)) (Kp.new (o := .tup [.str wd]) hu)
  generalize hH2 : upd (upd (upd H1 l1 (.lst [.str "add", .str "times", .str "less", .str "pick"])) l2 (.lst [.int 2, .int 3])) u (.tup [.str wd]) = H2 at *
  have eu : H2 u = some (.tup [.str wd]) := by rw [← hH2]; exact upd_same
  refine lc_range (lo := 0) (n := (mn : Int).toNat) (fun i H3 => Kp [t] H2 H3 ∧ Tp K H3 t ∧ ∃ xs ds, H3 D = some (.lst xs) ∧ Dats H3 xs ds ∧ ds.length = i ∧ ∀ d ∈ ds, Rk ts (m - 1) d)
    ⟨.new hD, G2.T.same (same_new hD _), [], [], upd_same, .nil, rfl, fun _ h => nomatch h⟩ (fun i H3 hi hP => ?_) fun H3 hP => ?_
  · obtain ⟨k3, T3, xs, ds, e3, d3, hl3, r3⟩ := hP
    refine ⟨rfl, ?_⟩
    refine ⟨_, rfl, _, rfl, _, rfl, _, rfl, _, _, rfl, rfl, t, c, tv, bs, rs, ts, l, p, e, last, m - 1, ?_, by omega, G2.kp k3 T3, fun v d H4 r hv k4 T4 => ?_⟩
    · have e : ((m - 1 : Nat) : Int) = (m : Int) - 1 := by omega
      rw [e]; rfl
    have e4 : H4 D = some (.lst xs) := k4.at1 (G2.T.new hD) e3
    refine ⟨xs, e4, ?_, (k3.trans k4).putN hD, ?_, xs ++ [v], ds ++ [d], upd_same, ?_, by simp [hl3], fun d' hd' => ?_⟩
    · rw [d3.len, hl3]; exact small1000 (by omega)
    · exact T4.lst e4 _ (G2.T.new hD)
    · exact ((k4.dats d3).snoc hv).lst e4 _
    · rcases List.mem_append.mp hd' with z | z
      · exact r3 d' z
      · rw [List.mem_singleton.mp z]; exact r
  · obtain ⟨k3, T3, xs, ds, e3, d3, hl3, r3⟩ := hP
    refine ⟨D, xs, rfl, .inl ⟨.of e3, fun x hx => ?_⟩⟩
    have kx : Kp [t] H2 (upd H3 x (.tup xs)) := k3.trans (.new hx)
    have ne : xs ≠ [] := fun z => by
      rw [z] at d3
      have := d3.len
      rw [hl3] at this
      have : (mn : Int).toNat = 0 := this.symm
      omega
    refine catA (.inl (kx.tup _ _ (.inl eu))) (.inl (.inl upd_same)) (by simp) ne ?_ fun y hy => ?_
    · rw [d3.len, hl3]; exact sz _ (by show 1 + _ ≤ 1000; omega)
    have d5 : Dats (upd H3 x (.tup xs)) ([V.str wd] ++ xs) ([Vw.D.str wd] ++ ds) := Dats.append (.cons .str .nil) (Same.dats (same_new hx _) d3)
    refine q _ _ _ ?_ (.made hy d5) (k1.trans (hut.trans (kx.trans (.new hy)))) ((T3.same (same_new hx _)).same (same_new hy _))
    rcases hwd with ⟨rfl, hw⟩ | ⟨rfl, rfl⟩
    · match ds, hl3, r3 with
      | [r, s], _, r3 =>
        have := Rk.bin hw (r3 r (by simp)) (r3 s (by simp))
        rw [show m - 1 + 1 = m by omega] at this
        exact this
    · match ds, hl3, r3 with
      | [r, s, z], _, r3 =>
        have := Rk.pick (r3 r (by simp)) (r3 s (by simp)) (r3 z (by simp))
        rw [show m - 1 + 1 = m by omega] at this
        exact this
end
end Vw

set_option maxHeartbeats 4000000
/-! keys, pairs, hands, part lines -/
namespace Vw
open PySem PySem.Spec PyProof.Rows L2
open C8 (pss_cut tCut)

/-- a list at D, new since H2, filled with data that are φ, while the tape is drawn from -/
def GI (K : PySem.W.Frag) (t : Addr) (H2 : Hp) (A : Addr) (φ : D → Prop) (i : Nat) (H3 : Hp) : Prop := Kp [t] H2 H3 ∧ Tp K H3 t ∧ ∃ xs ds, H3 A = some (.lst xs) ∧ Dats H3 xs ds ∧ ds.length = i ∧ ∀ d ∈ ds, φ d
theorem GI.start {K : PySem.W.Frag} {t A : Addr} {H2 : Hp} {φ : D → Prop} (hA : H2 A = none) (T : Tp K H2 t) : GI K t H2 A φ 0 (upd H2 A (.lst [])) :=
  ⟨.new hA, T.same (same_new hA _), [], [], upd_same, .nil, rfl, fun _ h => nomatch h⟩
theorem GI.push {K : PySem.W.Frag} {t A : Addr} {H2 H3 H4 : Hp} {φ : D → Prop} {i : Nat} {v : V} {d : D} (g : GI K t H2 A φ i H3) (hA : H2 A = none) (T2 : Tp K H2 t) (hi : i < 1000000) (k4 : Kp [t] H3 H4) (T4 : Tp K H4 t) (hv : Dat H4 v d) (hd : φ d) :
    ∃ acc, H4 A = some (.lst acc) ∧ acc.length < sizeLine ∧ GI K t H2 A φ (i + 1) (upd H4 A (.lst (acc ++ [v]))) := by
  obtain ⟨k3, T3, xs, ds, e3, d3, hl, h3⟩ := g
  have e4 : H4 A = some (.lst xs) := k4.at1 (T2.new hA) e3
  refine ⟨xs, e4, ?_, (k3.trans k4).putN hA, T4.lst e4 _ (T2.new hA), xs ++ [v], ds ++ [d], upd_same, ((k4.dats d3).snoc hv).lst e4 _, by simp [hl], fun d' hd' => ?_⟩
  · rw [d3.len, hl]
    exact Nat.lt_trans hi (by decide)
  · rcases List.mem_append.mp hd' with z | z
    · exact h3 d' z
    · rw [List.mem_singleton.mp z]; exact hd
theorem GI.kp {K : PySem.W.Frag} {t A : Addr} {H2 H3 H4 : Hp} {φ : D → Prop} {i : Nat} (g : GI K t H2 A φ i H3) (hA : H2 A = none) (T2 : Tp K H2 t) (k4 : Kp [t] H3 H4) (T4 : Tp K H4 t) : GI K t H2 A φ i H4 := by
  obtain ⟨k3, T3, xs, ds, e3, d3, hl, h3⟩ := g
  exact ⟨k3.trans k4, T4, xs, ds, k4.at1 (T2.new hA) e3, k4.dats d3, hl, h3⟩
theorem cut_mem {xs : List V} {lo hi : Option Int} {x : V} (h : x ∈ cutV xs lo hi) : x ∈ xs := List.mem_of_mem_drop (List.mem_of_mem_take h)

def KeyOk (ts : List Str) (d : D) : Prop := d = .non ∨ Rk ts 0 d
/-- a name and a reckoning -/
def PrOk (ts : List Str) (d : D) : Prop := ∃ x r, d = .tup [.str x, r] ∧ Rk ts 2 r
/-- a change: box, word, reckoning -/
def ChOk (ts : List Str) (d : D) : Prop := ∃ x y r, d = .tup [.str x, .str y, r] ∧ Rk ts 2 r
/-- a hand: event, rank, last, changes -/
def HdOk (ts : List Str) (d : D) : Prop := ∃ x i b ch, d = .tup [.str x, .int i, .bl b, .tup ch] ∧ ch.length ≤ 100 ∧ ∀ c ∈ ch, ChOk ts c

section
variable {P : Program} {w : World} {K : PySem.W.Frag} {mg : Str → Option Value} {base : Heap} {f : Addr} {fd : FuncData} {k : Nat}
def spKey (K : PySem.W.Frag) : Sp := fun vs H Q _ => ∃ (t c : Addr) (tv : V) (bs rs : Addr × List Str) (ts : List Str) (l p e : Int) (last : Option Str), vs = [.ref t, .ref c, tv] ∧ Gc K H t c tv bs rs ts l p e last ∧
  ∀ v d H', KeyOk ts d → Dat H' v d → Kp [t] H H' → Tp K H' t → Q v H'
theorem sc_law_key : FnScope ["_law_tape_here", "_law_kit", "_law_turns", "_law_way"] ["_law_tape_here", "_law_kit", "_law_turns"] (defScope (Vh.top 10)) := ⟨rfl, rfl, rfl, by decide +kernel, rfl, by decide +kernel, by decide +kernel⟩
theorem ok_key (F : Fun K "_law_key" "_law_key" (Vh.top 10) f fd) (B : Blt mg) (C_law_draw : Cl P w K mg base k "_law_draw" (spDraw K)) (C_law_leaf : Cl P w K mg base k "_law_leaf" (spLeaf K)) : FnOk P w K mg base CX0 (k + 1) f fd ["_law_tape_here", "_law_kit", "_law_turns"] (spKey K) := by
  refine F.ok sc_law_key (fun vs H Q E h => ?_) (fun cdv A outer s H vs Q E hr h => ?_)
  · obtain ⟨t, c, tv, _, _, _, _, _, _, _, rfl, _⟩ := h
    rfl
  obtain ⟨t, c, tv, bs, rs, ts, l, p, e, last, rfl, G, q⟩ := h
  refine ⟨_, (pss_cons (ps_set (i := 3) sc_law_key.nd rfl (Or.inl rfl) (pe_cl C_law_draw hr (by rfl) (pa_cons (pv 0) (pa_cons pe_int pa_nil))))
  (pss_cons (ps_if (pt_cmpR op_lt (pv 3) pe_int (nomark _)) (pss_one (ps_ret pe_non)) pss_nil)
  (pss_cut (ps_if (PW.pt (pw_and (pt_cmpR op_eq (pv 3) pe_int (nomark _)) (pw_and1 (pt_cmpR op_gt (pe_callB call_len_seq (by rfl) B.len_ (by decide +kernel) (pa_cons (pv 2) pa_nil)) pe_int (nomark _))))) (pss_one (ps_ret (pe_tup (pa_cons pe_str (pa_cons (pe_ix ix_tup (pv 2) (pe_un un_neg pe_int) (fun _ _ => rfl)) pa_nil))))) pss_nil)
  (pss_one (ps_ret (pe_cl C_law_leaf hr (by rfl) (pa_cons (pv 0) (pa_cons (pv 1) (pa_cons (pv 2) pa_nil))))))))), ?_⟩
  refine ⟨_, rfl, t, 4, rfl, by decide, by decide, G.T, fun a H1 a0 a1 k1 T1 => ?_⟩
  have G1 := G.kp k1 T1
  refine ⟨_, rfl, _, _, rfl, rfl, _, rfl, ?_⟩
  refine ite2 (fun c1 => q _ _ _ (.inl rfl) .non k1 T1) (fun c1 => ?_)
  obtain ⟨ta, txs, rfl, et, dt⟩ := Dat.tup_inv G1.hd
  refine ⟨fun σ' H' => σ' = [some (.ref t), some (.ref c), some (.ref ta), some (.int a)] ∧ H1 = H', ?_, ?_⟩
  · refine ⟨_, rfl, rfl, _, rfl, ?_⟩
    refine ite2 (fun c1 => ?_) (fun c1 => iteF ⟨rfl, rfl⟩)
    refine ⟨_, rfl, ta, _, rfl, .inr (.inl et), _, _, rfl, rfl, _, rfl, ?_⟩
    refine ite2 (fun c2 => ?_) (fun c2 => ⟨rfl, rfl⟩)
    have c2' : (0 : Int) < (txs.length : Nat) := of_decide_eq_true c2
    have hj : txs.length - 1 < txs.length := by omega
    have hx : atI txs (-1) = some txs[txs.length - 1] := by
      unfold atI ixN
      rw [if_neg (by decide), if_pos (by omega)]
      show txs[((-1 : Int) + (txs.length : Nat)).toNat]? = _
      rw [show ((-1 : Int) + (txs.length : Nat)).toNat = txs.length - 1 by omega, List.getElem?_eq_getElem hj]
    obtain ⟨d, hd1, hd2⟩ := dt.at (List.getElem?_eq_getElem hj)
    obtain ⟨y, hy, rfl⟩ := List.mem_map.mp (List.mem_of_getElem? hd1)
    rw [hd2.str_inv] at hx
    refine ⟨_, rfl, _, rfl, ta, _, _, _, rfl, rfl, .inl et, hx, szb, fun u hu => ?_⟩
    exact q _ _ _ (.inr (.turn hy)) (.made hu (.cons .str (.cons .str .nil))) (k1.trans (.new hu)) (T1.same (same_new hu _))
  · rintro _ _ ⟨rfl, rfl⟩
    refine ⟨_, rfl, _, rfl, _, rfl, t, c, _, bs, rs, ts, l, p, e, last, rfl, G1.T, G1.Kt, G1.hb, G1.hts, G1.hd, fun v d H2 r hv k2 T2 => ?_⟩
    exact q _ _ _ (.inr r) hv (k1.trans k2) T2

def spPairs (K : PySem.W.Frag) : Sp := fun vs H Q _ => ∃ (t c : Addr) (tv : V) (bs rs : Addr × List Str) (ts : List Str) (l p e : Int) (last : Option Str) (m : Int), vs = [.ref t, .ref c, tv, .int m] ∧ 0 ≤ m ∧ m ≤ 11 ∧ Gc K H t c tv bs rs ts l p e last ∧
  ∀ v ds H', (∀ d ∈ ds, PrOk ts d) → ds.length ≤ 100 → Dat H' v (.tup ds) → Kp [t] H H' → Tp K H' t → Q v H'
theorem sc_law_pairs : FnScope ["_law_tape_here", "_law_kit", "_law_turns", "_law_most", "_law_names_here", "_law_name"] ["_law_tape_here", "_law_kit", "_law_turns", "_law_most"] (defScope (Vh.top 11)) := ⟨rfl, rfl, rfl, by decide +kernel, rfl, by decide +kernel, by decide +kernel⟩
theorem ok_pairs (F : Fun K "_law_pairs" "_law_pairs" (Vh.top 11) f fd) (B : Blt mg) (C_law_draw : Cl P w K mg base k "_law_draw" (spDraw K)) (C_law_names : Cl P w K mg base k "_law_names" (spNames K))
    (C_law_sum : Cl P w K mg base k "_law_sum" (spSum K 3)) : FnOk P w K mg base CX0 (k + 1) f fd ["_law_tape_here", "_law_kit", "_law_turns", "_law_most"] (spPairs K) := by
  refine F.ok sc_law_pairs (fun vs H Q E h => ?_) (fun cdv A outer s H vs Q E hr h => ?_)
  · obtain ⟨t, c, tv, _, _, _, _, _, _, _, _, rfl, _⟩ := h
    rfl
  obtain ⟨t, c, tv, bs, rs, ts, l, p, e, last, m, rfl, hm0, hm1, G, q⟩ := h
  refine ⟨_, (pss_cons (ps_set (i := 4) sc_law_pairs.nd rfl (Or.inl rfl) (pe_cl C_law_names hr (by rfl) (pa_cons (pv 0) (pa_cons (pe_cl C_law_draw hr (by rfl) (pa_cons (pv 0) (pa_cons (pe_op op_add (pv 3) pe_int) pa_nil))) pa_nil))))
  (pss_one (ps_ret (pe_callTy call_tuple_of (by rfl) B.tuple_ (by decide +kernel) (pa_cons (pe_lc (own := [("_law_name", 5)]) (g := (gName 5)) (by rfl) sc_law_pairs.nd (pi_list (pv 4)) (blkOk_by (own := [("_law_name", 5)]) (N := ["_law_tape_here", "_law_kit", "_law_turns", "_law_most", "_law_names_here", "_law_name"]) (sc := defScope (Vh.top 11)) (by decide +kernel)) (fun _ _ _ _ _ => (pg_name (i := 5) sc_law_pairs.nd rfl (.inl rfl))) (fun _ _ _ _ _ => pts_nil) (fun _ _ _ _ _ => (pe_tup (pa_cons (pv 5) (pa_cons (pe_cl C_law_sum hr (by rfl) (pa_cons (pv 0) (pa_cons (pv 1) (pa_cons (pv 2) (pa_cons pe_int pa_nil))))) pa_nil))))) pa_nil))))), ?_⟩
  refine ⟨_, rfl, _, rfl, _, rfl, _, _, rfl, rfl, t, m + 1, rfl, by omega, by omega, G.T, fun a H1 a0 a1 k1 T1 => ?_⟩
  refine ⟨t, a.toNat, ?_, by omega, T1, fun n xs H2 hxs hnd k2 T2 hn e2 => ?_⟩
  · rw [show ((a.toNat : Nat) : Int) = a by omega]; rfl
  have G2 := (G.kp k1 T1).kp k2 T2
  refine ⟨_, rfl, n, rfl, ⟨_, .of e2⟩, fun A hA => ?_⟩
  refine lc_list (K := K) (a := n) (xs := xs.map V.str) (GI K t H2 A (PrOk ts)) (.start hA T2) (fun i H3 _ g => .of (g.1.at1 (T2.nes e2) e2)) (fun i x H3 hx g => ?_) fun H3 g => ?_
  · obtain ⟨y, _, rfl⟩ := List.mem_map.mp (List.mem_of_getElem? hx)
    have hi : i < 1000000 := by
      have := (List.getElem?_eq_some_iff.mp hx).1
      rw [List.length_map, hxs] at this
      omega
    refine ⟨rfl, ?_⟩
    refine ⟨_, rfl, _, rfl, _, rfl, _, rfl, t, c, tv, bs, rs, ts, l, p, e, last, 2, rfl, by decide, G2.kp g.1 g.2.1, fun v d H4 r hv k4 T4 => ?_⟩
    refine ⟨szb, fun u hu => ?_⟩
    exact g.push hA T2 hi (k4.trans (.new hu)) (T4.same (same_new hu _)) (.made hu (.cons .str (.cons hv .nil))) ⟨y, d, rfl, r⟩
  · obtain ⟨k3, T3, ys, ds, e3, d3, hl3, r3⟩ := g
    refine ⟨A, ys, rfl, .inl ⟨.of e3, fun x hx => ?_⟩⟩
    refine q _ ds _ r3 ?_ (.made hx d3) (k1.trans (k2.trans (k3.trans (.new hx)))) (T3.same (same_new hx _))
    rw [hl3, List.length_map, hxs]
    omega

def spHands (K : PySem.W.Frag) : Sp := fun vs H Q _ => ∃ (t c : Addr) (tv : V) (bs rs : Addr × List Str) (ts : List Str) (l p e : Int) (last : Option Str), vs = [.ref t, .ref c, tv] ∧ Gc K H t c tv bs rs ts l p e last ∧
  ∀ v ds H', (∀ d ∈ ds, HdOk ts d) → ds.length ≤ 100 → Dat H' v (.tup ds) → Kp [t] H H' → Tp K H' t → Q v H'
theorem sc_law_hands : FnScope ["_law_tape_here", "_law_kit", "_law_turns", "_law_hands_here", "_law_event", "_law_changes", "_law_k", "_law_box", "_law_word"] ["_law_tape_here", "_law_kit", "_law_turns"] (defScope (Vh.top 12)) := ⟨rfl, rfl, rfl, by decide +kernel, rfl, by decide +kernel, by decide +kernel⟩
theorem ok_hands (F : Fun K "_law_hands" "_law_hands" (Vh.top 12) f fd) (B : Blt mg) (C_law_draw : Cl P w K mg base k "_law_draw" (spDraw K)) (C_law_sum : Cl P w K mg base k "_law_sum" (spSum K 3)) : FnOk P w K mg base CX0 (k + 1) f fd ["_law_tape_here", "_law_kit", "_law_turns"] (spHands K) := by
  refine F.ok sc_law_hands (fun vs H Q E h => ?_) (fun cdv A outer s H vs Q E hr h => ?_)
  · obtain ⟨t, c, tv, _, _, _, _, _, _, _, rfl, _⟩ := h
    rfl
  obtain ⟨t, c, tv, bs, rs, ts, l, p, e, last, rfl, G, q⟩ := h
  refine ⟨_, (pss_cons (ps_set (i := 3) sc_law_hands.nd rfl (Or.inl rfl) (pe_lst pa_nil))
  (pss_cons (ps_for PassesOwn.never rfl (pi_list (pe_slice sl_list (pe_lst (pa_cons pe_str (pa_cons pe_str pa_nil))) po_none (po_some (pe_cl C_law_draw hr (by rfl) (pa_cons (pv 0) (pa_cons pe_int pa_nil)))))) (pg_name (i := 4) sc_law_hands.nd rfl (.inl rfl)) (pss_cons (ps_set (i := 5) sc_law_hands.nd rfl (Or.inl rfl) (pe_lst pa_nil))
  (pss_cut (ps_if (pt_cmpR op_gt (pe_callB call_len_seq (by rfl) B.len_ (by decide +kernel) (pa_cons (pe_dget (hu_of hr) (pv 1) pe_str (fun _ _ => rfl)) pa_nil)) pe_int (nomark _)) (pss_one (ps_for PassesOwn.never rfl (pi_range1 (by rfl) B.range_ (pa_cons (pe_cl C_law_draw hr (by rfl) (pa_cons (pv 0) (pa_cons pe_int pa_nil))) pa_nil)) (pg_name (i := 6) sc_law_hands.nd rfl (.inl rfl)) (pss_cons (ps_set (i := 7) sc_law_hands.nd rfl (Or.inl rfl) (pe_ix ix_list (pe_dget (hu_of hr) (pv 1) pe_str (fun _ _ => rfl)) (pe_cl C_law_draw hr (by rfl) (pa_cons (pv 0) (pa_cons (pe_callB call_len_seq (by rfl) B.len_ (by decide +kernel) (pa_cons (pe_dget (hu_of hr) (pv 1) pe_str (fun _ _ => rfl)) pa_nil)) pa_nil))) (fun _ _ => rfl)))
  (pss_cons (ps_set (i := 8) sc_law_hands.nd rfl (Or.inl rfl) (pe_ix ix_list (pe_lst (pa_cons pe_str (pa_cons pe_str (pa_cons pe_str pa_nil)))) (pe_cl C_law_draw hr (by rfl) (pa_cons (pv 0) (pa_cons pe_int pa_nil))) (fun _ _ => rfl)))
  (pss_one (ps_expr (pe_bm PySem.F.plainAttrs_list PySem.F.slot_list_append PySem.F.type_list_append mt_append (pv 5) (pa_cons (pe_tup (pa_cons (pv 7) (pa_cons (pv 8) (pa_cons (pe_cl C_law_sum hr (by rfl) (pa_cons (pv 0) (pa_cons (pv 1) (pa_cons (pv 2) (pa_cons pe_int pa_nil))))) pa_nil)))) pa_nil)))))))) pss_nil)
  (pss_one (ps_expr (pe_bm PySem.F.plainAttrs_list PySem.F.slot_list_append PySem.F.type_list_append mt_append (pv 3) (pa_cons (pe_tup (pa_cons (pv 4) (pa_cons (pe_op op_add pe_int (pe_cl C_law_draw hr (by rfl) (pa_cons (pv 0) (pa_cons pe_int pa_nil)))) (pa_cons (pe_cmpR op_eq (pe_cl C_law_draw hr (by rfl) (pa_cons (pv 0) (pa_cons pe_int pa_nil))) pe_int (nomark _)) (pa_cons (pe_callTy call_tuple_of (by rfl) B.tuple_ (by decide +kernel) (pa_cons (pv 5) pa_nil)) pa_nil))))) pa_nil)))))))
  (pss_one (ps_ret (pe_callTy call_tuple_of (by rfl) B.tuple_ (by decide +kernel) (pa_cons (pv 3) pa_nil)))))), ?_⟩
  refine ⟨szb, fun A hA => ?_⟩
  have g0 : GI K t H A (HdOk ts) 0 (upd H A (.lst [])) := .start hA G.T
  have G0 := G.new hA (.lst [])
  refine ⟨szb, fun n1 hn1 => ?_⟩
  have G1 := G0.new hn1 (.lst [.str "tap", .str "key"])
  refine ⟨_, rfl, t, 3, rfl, by decide, by decide, G1.T, fun a H1 a0 a1 k1 T1 => ?_⟩
  refine ⟨_, rfl, n1, _, rfl, .of (k1.at1 (G0.T.new hn1) upd_same), fun n2 hn2 => ?_⟩
  have G2 := (G1.kp k1 T1).new hn2 (.lst (cutV [.str "tap", .str "key"] none (some a)))
  have n2t : n2 ≠ t := T1.new hn2
  have n2A : n2 ≠ A := by
    obtain ⟨_, _, xs, _, e, _⟩ := g0.kp hA G.T ((Kp.new hn1).trans k1) T1
    exact (ne_of_none e hn2).symm
  have k02 : Kp [t] (upd H A (.lst [])) (upd H1 n2 (.lst (cutV [.str "tap", .str "key"] none (some a)))) := (Kp.new hn1).trans (k1.trans (.new hn2))
  have g2 := g0.kp hA G.T k02 G2.T
  have i2 : (upd H1 n2 (.lst (cutV [.str "tap", .str "key"] none (some a)))) n2 = some (.lst (cutV [.str "tap", .str "key"] none (some a))) := upd_same
  generalize upd H1 n2 (.lst (cutV [.str "tap", .str "key"] none (some a))) = H2 at *
  have hlen : (cutV [V.str "tap", .str "key"] none (some a)).length ≤ 2 := cutV_length _ _ _
  refine ⟨n2, rfl, ⟨_, .of i2⟩, for_list (K := K) (xs := cutV [.str "tap", .str "key"] none (some a)) (fun i σ H3 => (∃ y4 y5 y6 y7 y8, σ = [some (.ref t), some (.ref c), some tv, some (.ref A), y4, y5, y6, y7, y8]) ∧ GI K t H A (HdOk ts) i H3 ∧ Kp [t, A] H2 H3)
    ⟨⟨_, _, _, _, _, rfl⟩, g2, .refl⟩ (fun i σ H3 hi hP => .of (hP.2.2.all _ _ (by simp [n2t, n2A]) i2)) (fun i x σ H3 hx hP => ?_) fun σ H3 hP => ?_⟩
  · obtain ⟨⟨y4, y5, y6, y7, y8, rfl⟩, g3, k3⟩ := hP
    have hi : i < (cutV [V.str "tap", .str "key"] none (some a)).length := (List.getElem?_eq_some_iff.mp hx).1
    obtain ⟨ev, rfl⟩ : ∃ ev, x = .str ev := by
      have := cut_mem (List.mem_of_getElem? hx)
      simp at this
      rcases this with h | h
      · exact ⟨_, h⟩
      · exact ⟨_, h⟩
    have G3 := G.kp g3.1 g3.2.1
    have A3 : ∃ xs, H3 A = some (.lst xs) := let ⟨_, _, xs, _, e, _⟩ := g3; ⟨xs, e⟩
    refine ⟨szb, fun ch hch => ?_⟩
    have G4 := G3.new hch (.lst [])
    have h0 : GI K t H3 ch (ChOk ts) 0 (upd H3 ch (.lst [])) := .start hch G3.T
    obtain ⟨e1, e2, e3⟩ := G4.Kt.ex
    refine ⟨fun σ' H' => (∃ y6 y7 y8, σ' = [some (.ref t), some (.ref c), some tv, some (.ref A), some (.str ev), some (.ref ch), y6, y7, y8]) ∧ ∃ j, GI K t H3 ch (ChOk ts) j H' ∧ j ≤ 100, ?_, ?_⟩
    · refine ⟨_, rfl, c, _, rfl, kit_get e1 kit_boxes, bs.1, _, rfl, .inl (.of e2), _, _, rfl, rfl, _, rfl, ?_⟩
      refine ite2 (fun c2 => ?_) (fun c2 => ⟨⟨_, _, _, rfl⟩, 0, h0, by decide⟩)
      have c2' : (0 : Int) < ((bs.2.map V.str).length : Nat) := of_decide_eq_true c2
      rw [List.length_map] at c2'
      refine ⟨_, rfl, t, 3, rfl, by decide, by decide, G4.T, fun m H5 m0 m1 k5 T5 => ?_⟩
      refine ⟨m, rfl, by omega, by omega, for_range (lo := 0) (n := m.toNat) (fun j σ H6 => (∃ y6 y7 y8, σ = [some (.ref t), some (.ref c), some tv, some (.ref A), some (.str ev), some (.ref ch), y6, y7, y8]) ∧ GI K t H3 ch (ChOk ts) j H6)
        ⟨⟨_, _, _, rfl⟩, h0.kp hch G3.T k5 T5⟩ (fun j σ H6 hj hP => ?_) fun σ H6 hP => ⟨hP.1, _, hP.2, by omega⟩⟩
      obtain ⟨⟨y6, y7, y8, rfl⟩, h6⟩ := hP
      have G6 := G3.kp h6.1 h6.2.1
      obtain ⟨e1, e2, e3⟩ := G6.Kt.ex
      refine ⟨_, rfl, c, _, rfl, kit_get e1 kit_boxes, _, rfl, _, rfl, c, _, rfl, kit_get e1 kit_boxes, bs.1, _, rfl, .inl (.of e2), t, _, rfl, ?_, ?_, G6.T, fun b H7 b0 b1 k7 T7 => ?_⟩
      · rw [List.length_map]; omega
      · rw [List.length_map]; have := G.hb; omega
      have f2 := k7.at1 (G6.T.nes e2) e2
      obtain ⟨x, hm, hx⟩ := atI_lt (xs := bs.2.map V.str) b0 b1
      obtain ⟨y, _, rfl⟩ := List.mem_map.mp hm
      refine ⟨bs.1, _, _, _, rfl, rfl, .of f2, hx, ?_⟩
      have h7 := h6.kp hch G3.T k7 T7
      refine ⟨szb, fun l1 hl1 => ?_⟩
      refine ⟨_, rfl, t, 3, rfl, by decide, by decide, T7.same (same_new hl1 _), fun b2 H8 c0 c1 k8 T8 => ?_⟩
      have h8 := h7.kp hch G3.T ((Kp.new hl1).trans k8) T8
      have l8 := k8.at1 (T7.new hl1) upd_same
      obtain ⟨wd, hw⟩ : ∃ wd : Str, atI [V.str "set", .str "add", .str "times"] b2 = some (.str wd) := by
        have : b2 = 0 ∨ b2 = 1 ∨ b2 = 2 := by omega
        rcases this with rfl | rfl | rfl <;> exact ⟨_, rfl⟩
      refine ⟨l1, _, _, _, rfl, rfl, .of l8, hw, ?_⟩
      have G8 := G3.kp h8.1 h8.2.1
      have ch8 : ∃ xs, H8 ch = some (.lst xs) := let ⟨_, _, xs, _, e, _⟩ := h8; ⟨xs, e⟩
      obtain ⟨xs8, ch8⟩ := ch8
      refine ⟨_, rfl, .inl ⟨rfl, _, .of ch8⟩, _, rfl, _, rfl, _, rfl, _, rfl, _, rfl, t, c, tv, bs, rs, ts, l, p, e, last, 1, rfl, by decide, G8, fun v d H9 r hv k9 T9 => ?_⟩
      refine ⟨szb, fun u hu => ?_⟩
      obtain ⟨acc, ea, la, ga⟩ := h8.push hch G3.T (by omega) (k9.trans (.new hu)) (T9.same (same_new hu _)) (.made hu (.cons .str (.cons .str (.cons hv .nil)))) ⟨y, wd, d, rfl, r.up (by decide)⟩
      exact ⟨ch, acc, _, rfl, rfl, ea, la, ⟨_, _, _, rfl⟩, ga⟩
    · rintro σ' H5 ⟨⟨y6, y7, y8, rfl⟩, j, h5, hj⟩
      have g5 := g3.kp hA G.T h5.1 h5.2.1
      have A5 : ∃ xs, H5 A = some (.lst xs) := let ⟨_, _, xs, _, e, _⟩ := g5; ⟨xs, e⟩
      obtain ⟨xs5, e5⟩ := A5
      refine ⟨_, rfl, .inl ⟨rfl, _, .of e5⟩, _, rfl, _, rfl, t, 3, rfl, by decide, by decide, h5.2.1, fun r1 H6 b0 b1 k6 T6 => ?_⟩
      refine ⟨_, _, rfl, rfl, _, rfl, t, 2, rfl, by decide, by decide, T6, fun r2 H7 c0 c1 k7 T7 => ?_⟩
      have h7 := h5.kp hch G3.T (k6.trans k7) T7
      obtain ⟨k37, _, ys, ds, e7, d7, l7, r7⟩ := id h7
      refine ⟨rfl, _, rfl, ch, ys, rfl, .inl ⟨.of e7, fun x hx => ?_⟩⟩
      refine ⟨szb, fun u hu => ?_⟩
      have kx : Kp [t] H5 (upd (upd H7 x (.tup ys)) u (.tup [.str ev, .int (1 + r1), .bl (decide (V.int r2 = V.int 0)), .ref x])) := (k6.trans k7).trans ((Kp.new hx).trans (.new hu))
      have Tx := (T7.same (same_new hx (.tup ys))).same (same_new hu (.tup [.str ev, .int (1 + r1), .bl (decide (V.int r2 = V.int 0)), .ref x]))
      have dx : Dat (upd H7 x (.tup ys)) (.ref x) (.tup ds) := .made hx d7
      obtain ⟨acc, ea, la, ga⟩ := g5.push hA G.T (by omega) kx Tx (.made hu (.cons .str (.cons .int (.cons .bl (.cons dx .nil))))) ⟨ev, 1 + r1, _, ds, rfl, by omega, r7⟩
      refine ⟨A, acc, _, rfl, rfl, ea, la, ⟨_, _, _, _, _, rfl⟩, ga, ?_⟩
      exact (k3.trans ((h5.1.trans kx).sub fun b hb => by simpa using .inl (List.mem_singleton.mp hb))).trans ((Kp.lst ea _).sub fun b hb => by simpa using .inr (List.mem_singleton.mp hb))
  · obtain ⟨⟨y4, y5, y6, y7, y8, rfl⟩, g3, _⟩ := hP
    obtain ⟨k3, T3, xs, ds, e3, d3, hl3, r3⟩ := g3
    refine ⟨_, rfl, A, xs, rfl, .inl ⟨.of e3, fun x hx => ?_⟩⟩
    exact q _ ds _ r3 (by omega) (.made hx d3) (k3.trans (.new hx)) (T3.same (same_new hx _))
end
end Vw

set_option maxHeartbeats 4000000
/-! lines -/
namespace Vw
open PySem PySem.Spec PyProof.Rows L2
open C8 (pss_cut tCut)

/-- lines: nms the parts that may be named, ts the turns, n how deep, w how many parts they draw at most, c how many things -/
inductive Lns (nms : List Str) : List Str → Nat → Nat → Nat → List D → Prop
  | nil {ts n} : Lns nms ts n 0 0 []
  | plain {ts n w c w' c' k sets hands row next} {tag : Str} : KeyOk ts k → (∀ d ∈ sets, PrOk ts d) → (∀ d ∈ hands, HdOk ts d) → sets.length ≤ 100 → hands.length ≤ 100 → Lns nms ts n w c row → Lns nms ts (n + 1) w' c' next →
      Lns nms ts (n + 1) (w + w') (1 + c + c') (.tup [.str "plain", k, .str tag, .tup sets, .tup hands, .tup row] :: next)
  | part {ts n w c k gives next} {name : Str} : name ∈ nms → KeyOk ts k → (∀ d ∈ gives, PrOk ts d) → gives.length ≤ 100 → Lns nms ts n w c next → Lns nms ts n (1 + w) (1 + c) (.tup [.str "part", k, .str name, .tup gives] :: next)
  | give {ts n w c w' c' k r row next} {a : Str} : KeyOk ts k → Rk ts 2 r → Lns nms ts n w c row → Lns nms ts (n + 1) w' c' next → Lns nms ts (n + 1) (w + w') (1 + c + c') (.tup [.str "give", k, .str a, r, .tup row] :: next)
  | when {ts n w1 c1 w2 c2 w' c' r a b next} : Rk ts 2 r → Lns nms ts n w1 c1 a → Lns nms ts n w2 c2 b → Lns nms ts (n + 1) w' c' next → Lns nms ts (n + 1) (w1 + w2 + w') (c1 + c2 + c') (.tup [.str "when", r, .tup a, .tup b] :: next)
  | each {ts n w c w' c' r row next} {a : Str} : Rk [] 2 r → Lns nms [a] n w c row → Lns nms ts (n + 1) w' c' next → Lns nms ts (n + 1) (8 * w + w') (8 * c + c') (.tup [.str "each", .str a, r, .tup row] :: next)
theorem Lns.eq {nms ts : List Str} {n w c w' c' : Nat} {ds : List D} (h : Lns nms ts n w c ds) (e1 : w = w') (e2 : c = c') : Lns nms ts n w' c' ds := by subst e1 e2; exact h
theorem Lns.app {nms ts : List Str} {n w c : Nat} {ds : List D} (h : Lns nms ts n w c ds) : ∀ {w' c' : Nat} {es : List D}, Lns nms ts n w' c' es → Lns nms ts n (w + w') (c + c') (ds ++ es) := by
  induction h with
  | nil => intro w' c' es q; exact q.eq (by omega) (by omega)
  | plain h1 h2 h3 h4 h5 h6 _ _ ih => intro w' c' es q; exact (Lns.plain h1 h2 h3 h4 h5 h6 (ih q)).eq (by omega) (by omega)
  | part h1 h2 h3 h4 _ ih => intro w' c' es q; exact (Lns.part h1 h2 h3 h4 (ih q)).eq (by omega) (by omega)
  | give h1 h2 h3 _ _ ih => intro w' c' es q; exact (Lns.give h1 h2 h3 (ih q)).eq (by omega) (by omega)
  | «when» h1 h2 h3 _ _ _ ih => intro w' c' es q; exact (Lns.when h1 h2 h3 (ih q)).eq (by omega) (by omega)
  | each h1 h2 _ _ ih => intro w' c' es q; exact (Lns.each h1 h2 (ih q)).eq (by omega) (by omega)
theorem Lns.up {nms ts : List Str} {n w c : Nat} {ds : List D} (h : Lns nms ts n w c ds) : ∀ {m : Nat}, n ≤ m → Lns nms ts m w c ds := by
  induction h with
  | nil => intro m _; exact .nil
  | plain h1 h2 h3 h4 h5 _ _ i1 i2 =>
    intro m hm
    obtain ⟨m, rfl⟩ : ∃ m', m = m' + 1 := ⟨m - 1, by omega⟩
    exact .plain h1 h2 h3 h4 h5 (i1 (by omega)) (i2 hm)
  | part h1 h2 h3 h4 _ ih => intro m hm; exact .part h1 h2 h3 h4 (ih hm)
  | give h1 h2 _ _ i1 i2 =>
    intro m hm
    obtain ⟨m, rfl⟩ : ∃ m', m = m' + 1 := ⟨m - 1, by omega⟩
    exact .give h1 h2 (i1 (by omega)) (i2 hm)
  | «when» h1 _ _ _ i1 i2 i3 =>
    intro m hm
    obtain ⟨m, rfl⟩ : ∃ m', m = m' + 1 := ⟨m - 1, by omega⟩
    exact .when h1 (i1 (by omega)) (i2 (by omega)) (i3 hm)
  | each h1 _ _ i1 i2 =>
    intro m hm
    obtain ⟨m, rfl⟩ : ∃ m', m = m' + 1 := ⟨m - 1, by omega⟩
    exact .each h1 (i1 (by omega)) (i2 hm)

def Bl : Option Str → Nat
  | none => 0
  | some _ => 16
def mm (e : Nat) : Nat := if e = 0 then 1 else 8
theorem mm_le {e e' : Nat} (h : e' ≤ e) : mm e' ≤ mm e := by
  unfold mm
  split <;> split <;> omega
theorem mm_one (e : Nat) : 1 ≤ mm e := by unfold mm; split <;> omega
theorem mm_add {a b x y e e' : Nat} (h1 : a ≤ mm e * x) (h2 : b ≤ mm e' * y) (h : e' ≤ e) : a + b ≤ mm e * (x + y) := by
  have := Nat.mul_le_mul_right y (mm_le h)
  rw [Nat.mul_add]
  omega
/-- what the drawing of lines leans on -/
structure Gn (K : PySem.W.Frag) (H : Hp) (t c : Addr) (tv : V) (bs rs : Addr × List Str) (ts nms : List Str) (l p e : Nat) (last : Option Str) : Prop where
  G : Gc K H t c tv bs rs ts l p e last
  hrs : rs.2.length ≤ 100
  hr : ∀ r ∈ rs.2, r ∈ nms
  he : e ≤ 1
  hl : 0 < e → ∀ nm, last = some nm → nm ∈ nms
/-- what it leaves -/
structure Gp (K : PySem.W.Frag) (H H' : Hp) (t c : Addr) (bs rs : Addr × List Str) (ts nms : List Str) (n l p e own : Nat) (last : Option Str) (ds : List D) (l' p' e' : Nat) : Prop where
  ln : ∃ w x, Lns nms ts n w x ds ∧ w + p' + Bl last * e' ≤ p + Bl last * e ∧ x ≤ mm e * (own + (l - l'))
  k : Kp [t, c] H H'
  T : Tp K H' t
  Kt : Kit H' c bs rs l' p' e' last
  hl : l' ≤ l
  hp : p' ≤ p
  he : e' ≤ e
  ht : ts ≠ [] → p' = p
theorem Gn.next {K : PySem.W.Frag} {H H' : Hp} {t c : Addr} {tv : V} {bs rs : Addr × List Str} {ts nms : List Str} {l p e l' p' e' : Nat} {last : Option Str} (g : Gn K H t c tv bs rs ts nms l p e last) (k : Kp [t, c] H H') (T : Tp K H' t) (Kt : Kit H' c bs rs l' p' e' last) (h : e' ≤ e) :
    Gn K H' t c tv bs rs ts nms l' p' e' last := ⟨⟨T, Kt, g.G.hb, g.G.hts, k.dat g.G.hd⟩, g.hrs, g.hr, Nat.le_trans h g.he, fun z => g.hl (by omega)⟩
theorem Gn.kp {K : PySem.W.Frag} {H H' : Hp} {t c : Addr} {tv : V} {bs rs : Addr × List Str} {ts nms : List Str} {l p e : Nat} {last : Option Str} (g : Gn K H t c tv bs rs ts nms l p e last) (k : Kp [t] H H') (T : Tp K H' t) : Gn K H' t c tv bs rs ts nms l p e last :=
  ⟨g.G.kp k T, g.hrs, g.hr, g.he, g.hl⟩
theorem Gn.same {K : PySem.W.Frag} {H H' : Hp} {t c : Addr} {tv : V} {bs rs : Addr × List Str} {ts nms : List Str} {l p e : Nat} {last : Option Str} (g : Gn K H t c tv bs rs ts nms l p e last) (s : Same H H') : Gn K H' t c tv bs rs ts nms l p e last :=
  g.kp (.same s) (g.G.T.same s)
theorem Kp.tc {t c : Addr} {H H' : Hp} (k : Kp [t] H H') : Kp [t, c] H H' := k.sub fun b hb => by simp [List.mem_singleton.mp hb]

section
variable {P : Program} {w : World} {K : PySem.W.Frag} {mg : Str → Option Value} {base : Heap} {f : Addr} {fd : FuncData} {k : Nat}
def spPartLine (K : PySem.W.Frag) : Sp := fun vs H Q _ => ∃ (t c : Addr) (tv : V) (bs rs : Addr × List Str) (ts : List Str) (l p e : Int) (last : Option Str) (nm : Str), vs = [.ref t, .ref c, tv, .str nm] ∧ Gc K H t c tv bs rs ts l p e last ∧
  ∀ v kd gs H', KeyOk ts kd → (∀ d ∈ gs, PrOk ts d) → gs.length ≤ 100 → Dat H' v (.tup [.str "part", kd, .str nm, .tup gs]) → Kp [t] H H' → Tp K H' t → Q v H'
theorem sc_law_part_line : FnScope ["_law_tape_here", "_law_kit", "_law_turns", "_law_name", "_law_key_here", "_law_names_here", "_law_one"] ["_law_tape_here", "_law_kit", "_law_turns", "_law_name"] (defScope (Vh.top 14)) := ⟨rfl, rfl, rfl, by decide +kernel, rfl, by decide +kernel, by decide +kernel⟩
theorem ok_part_line (F : Fun K "_law_part_line" "_law_part_line" (Vh.top 14) f fd) (B : Blt mg) (C_law_draw : Cl P w K mg base k "_law_draw" (spDraw K)) (C_law_key : Cl P w K mg base k "_law_key" (spKey K)) (C_law_sum : Cl P w K mg base k "_law_sum" (spSum K 3)) :
    FnOk P w K mg base CX0 (k + 1) f fd ["_law_tape_here", "_law_kit", "_law_turns", "_law_name"] (spPartLine K) := by
  refine F.ok sc_law_part_line (fun vs H Q E h => ?_) (fun cdv A outer s H vs Q E hr h => ?_)
  · obtain ⟨t, c, tv, _, _, _, _, _, _, _, _, rfl, _⟩ := h
    rfl
  obtain ⟨t, c, tv, bs, rs, ts, l, p, e, last, nm, rfl, G, q⟩ := h
  refine ⟨_, (pss_cons (ps_set (i := 4) sc_law_part_line.nd rfl (Or.inl rfl) (pe_cl C_law_key hr (by rfl) (pa_cons (pv 0) (pa_cons (pv 1) (pa_cons (pv 2) pa_nil)))))
  (pss_cons (ps_set (i := 5) sc_law_part_line.nd rfl (Or.inl rfl) (pe_slice sl_list (pe_lst (pa_cons pe_str (pa_cons pe_str (pa_cons pe_str pa_nil)))) po_none (po_some (pe_cl C_law_draw hr (by rfl) (pa_cons (pv 0) (pa_cons pe_int pa_nil))))))
  (pss_cut (ps_if (pt_cmpR op_eq (pe_cl C_law_draw hr (by rfl) (pa_cons (pv 0) (pa_cons pe_int pa_nil))) pe_int (nomark _)) (pss_one (ps_expr (pe_bm0 PySem.F.plainAttrs_list PySem.F.slot_list_reverse PySem.F.type_list_reverse mt_reverse (pv 5)))) pss_nil)
  (pss_one (ps_ret (pe_tup (pa_cons pe_str (pa_cons (pv 4) (pa_cons (pv 3) (pa_cons (pe_callTy call_tuple_of (by rfl) B.tuple_ (by decide +kernel) (pa_cons (pe_lc (own := [("_law_one", 6)]) (g := (gName 6)) (by rfl) sc_law_part_line.nd (pi_list (pv 5)) (blkOk_by (own := [("_law_one", 6)]) (N := ["_law_tape_here", "_law_kit", "_law_turns", "_law_name", "_law_key_here", "_law_names_here", "_law_one"]) (sc := defScope (Vh.top 14)) (by decide +kernel)) (fun _ _ _ _ _ => (pg_name (i := 6) sc_law_part_line.nd rfl (.inl rfl))) (fun _ _ _ _ _ => pts_nil) (fun _ _ _ _ _ => (pe_tup (pa_cons (pv 6) (pa_cons (pe_cl C_law_sum hr (by rfl) (pa_cons (pv 0) (pa_cons (pv 1) (pa_cons (pv 2) (pa_cons pe_int pa_nil))))) pa_nil))))) pa_nil)) pa_nil)))))))))), ?_⟩
  refine ⟨_, rfl, _, rfl, _, rfl, t, c, tv, bs, rs, ts, l, p, e, last, rfl, G, fun kv kd H1 hk dk k1 T1 => ?_⟩
  have G1 := G.kp k1 T1
  refine ⟨szb, fun l1 hl1 => ?_⟩
  refine ⟨_, rfl, t, 4, rfl, by decide, by decide, T1.same (same_new hl1 _), fun b H2 b0 b1 k2 T2 => ?_⟩
  have l2 := k2.at1 (T1.new hl1) upd_same
  refine ⟨_, rfl, l1, _, rfl, .of l2, fun n hn => ?_⟩
  have k12 : Kp [t] H1 (upd H2 n (.lst (cutV [.str "a", .str "ab", .str "b"] none (some b)))) := (Kp.new hl1).trans (k2.trans (.new hn))
  have T3 := T2.same (same_new hn (.lst (cutV [.str "a", .str "ab", .str "b"] none (some b))))
  have nt : n ≠ t := T2.new hn
  have n1 : H1 n = none := ((Kp.new (ms := [t]) hl1).trans k2).frs _ hn
  refine ⟨fun σ' H' => σ' = [some (.ref t), some (.ref c), some tv, some (.str nm), some kv, some (.ref n), none] ∧ Kp [t] H1 H' ∧ Tp K H' t ∧ ∃ ys, H' n = some (.lst ys) ∧ ys.length ≤ 3 ∧ ∀ y ∈ ys, ∃ x, y = V.str x, ?_, ?_⟩
  · have h3 : ∀ y ∈ cutV [V.str "a", .str "ab", .str "b"] none (some b), ∃ x, y = V.str x := fun y hy => by
      have := cut_mem hy
      simp at this
      rcases this with h | h | h <;> exact ⟨_, h⟩
    have hl3 : (cutV [V.str "a", .str "ab", .str "b"] none (some b)).length ≤ 3 := cutV_length _ _ _
    refine ⟨_, rfl, t, 2, rfl, by decide, by decide, T3, fun b2 H4 c0 c1 k4 T4 => ?_⟩
    have e4 := k4.at1 nt upd_same
    refine ⟨rfl, _, rfl, ?_⟩
    refine ite2 (fun _ => ?_) (fun _ => ⟨rfl, k12.trans k4, T4, _, e4, hl3, h3⟩)
    refine ⟨_, rfl, .inl ⟨rfl, _, .of e4⟩, n, _, rfl, rfl, e4, rfl, (k12.trans k4).putN n1, T4.lst e4 _ nt, _, upd_same, ?_, fun y hy => h3 y (List.mem_reverse.mp hy)⟩
    rw [List.length_reverse]
    exact hl3
  · rintro _ H5 ⟨rfl, k5, T5, ys, e5, l5, h5⟩
    have G5 := G1.kp k5 T5
    refine ⟨_, rfl, _, rfl, _, rfl, n, rfl, ⟨_, .of e5⟩, fun A hA => ?_⟩
    refine lc_list (K := K) (a := n) (xs := ys) (GI K t H5 A (PrOk ts)) (.start hA T5) (fun i H6 _ g => .of (g.1.at1 nt e5)) (fun i x H6 hx g => ?_) fun H6 g => ?_
    · obtain ⟨y, rfl⟩ := h5 x (List.mem_of_getElem? hx)
      have hi : i < 1000000 := by
        have := (List.getElem?_eq_some_iff.mp hx).1
        omega
      refine ⟨rfl, ?_⟩
      refine ⟨_, rfl, _, rfl, _, rfl, _, rfl, t, c, tv, bs, rs, ts, l, p, e, last, 1, rfl, by decide, G5.kp g.1 g.2.1, fun v d H7 r hv k7 T7 => ?_⟩
      refine ⟨szb, fun u hu => ?_⟩
      exact g.push hA T5 hi (k7.trans (.new hu)) (T7.same (same_new hu _)) (.made hu (.cons .str (.cons hv .nil))) ⟨y, d, rfl, r.up (by decide)⟩
    · obtain ⟨k6, T6, zs, ds, e6, d6, hl6, r6⟩ := g
      refine ⟨A, zs, rfl, .inl ⟨.of e6, fun x hx => ?_⟩⟩
      refine ⟨szb, fun u hu => ?_⟩
      have kx : Kp [t] H1 (upd H6 x (.tup zs)) := k5.trans (k6.trans (.new hx))
      refine q _ kd ds _ hk r6 (by omega) (.made hu (.cons .str (.cons (kx.dat dk) (.cons .str (.cons (.made hx d6) .nil))))) (k1.trans (kx.trans (.new hu))) ((T6.same (same_new hx _)).same (same_new hu _))
end
end Vw

set_option maxHeartbeats 4000000
/-! plain lines, eaches, lines: all by one budget -/
namespace Vw
open PySem PySem.Spec PyProof.Rows L2
open C8 (pss_cut tCut)

/-- a test, with a word between it and what follows -/
def tCutT (t : TT) : TT := fun σ H Q => ∃ M : Bool → Hp → Prop, t σ H M ∧ ∀ b H', M b H' → Q b H'
theorem pt_cut {X : Cx} {e : Expr} {t : TT} (h : PT X e t) : PT X e (tCutT t) := by
  refine ⟨fun pins s σ H Q I hw => ?_⟩
  obtain ⟨M, h1, h2⟩ := hw
  exact thn (h.run pins s σ H M I h1) fun b s' ⟨H', I', q⟩ => ⟨H', I', h2 b H' q⟩
/-- t == (), t a tuple -/
def rEqTE (K : PySem.W.Frag) : R2 := fun x y H Q => ∃ a b xs, x = .ref a ∧ y = .ref b ∧ SqT K H a xs ∧ SqT K H b [] ∧ Q (.bl xs.isEmpty) H
theorem op_eqTE {X : Cx} (hu : X.A.units < cLine) : OpR X (compareOp .Eq) (rEqTE X.K) := by
  intro pins s σ H x y v u Q I rx ry h
  obtain ⟨a, b, xs, rfl, rfl, ha, hb, q⟩ := h
  cases rx
  cases ry
  obtain ⟨its, r1, p1, _⟩ := I.tuple ha
  obtain ⟨its2, r2, p2, _⟩ := I.tuple hb
  cases r2
  refine SeqAt.eq_tupleAt (e := fun _ => true) p1 p2 hu (fun j h1 h2 => absurd h2 (by simp)) ⟨.bl xs.isEmpty, H, I, ?_, q⟩
  cases r1 with
  | nil => rfl
  | cons _ _ => rfl

theorem Kit.upd {H : Hp} {c : Addr} {bs rs : Addr × List Str} {l p e : Int} {last : Option Str} (h : Kit H c bs rs l p e last) (l' p' e' : Int) :
    Kit (upd H c (.dK (kitL bs.1 rs.1 l' p' e' last))) c bs rs l' p' e' last ∧ Kp [c] H (L2.upd H c (.dK (kitL bs.1 rs.1 l' p' e' last))) := by
  obtain ⟨e1, e2, e3⟩ := h.ex
  refine ⟨⟨⟨upd_same, ?_, ?_⟩, h.bp⟩, .put (by simp) e1 (fun _ z => nomatch z) fun _ _ z => nomatch z⟩
  · rw [upd_ne (ne_of e2 e1 (fun z => nomatch z))]; exact e2
  · rw [upd_ne (ne_of e3 e1 (fun z => nomatch z))]; exact e3
theorem Kit.off {H : Hp} {c b : Addr} {bs rs : Addr × List Str} {l p e : Int} {last : Option Str} (h : Kit H c bs rs l p e last) (hb : H b = none) : c ≠ b ∧ bs.1 ≠ b ∧ rs.1 ≠ b := by
  obtain ⟨e1, e2, e3⟩ := h.ex
  exact ⟨ne_of_none e1 hb, ne_of_none e2 hb, ne_of_none e3 hb⟩
/-- a thing apart from the kit is written -/
theorem Kit.put {H : Hp} {c b : Addr} {bs rs : Addr × List Str} {l p e : Int} {last : Option Str} (h : Kit H c bs rs l p e last) (hb : c ≠ b ∧ bs.1 ≠ b ∧ rs.1 ≠ b) (o : HO) : Kit (L2.upd H b o) c bs rs l p e last := by
  obtain ⟨e1, e2, e3⟩ := h.ex
  exact ⟨⟨by rw [upd_ne hb.1]; exact e1, by rw [upd_ne hb.2.1]; exact e2, by rw [upd_ne hb.2.2]; exact e3⟩, h.bp⟩
theorem kit_put {H : Hp} {c bl rl : Addr} {l p e l' p' e' : Int} {last : Option Str} {x : Str} {v : V} (h : H c = some (.dK (kitL bl rl l p e last))) (hv : putK (kitL bl rl l p e last) (.inr x) v = kitL bl rl l' p' e' last) :
    DPut H c (.str x) v (upd H c (.dK (kitL bl rl l' p' e' last))) := by
  rw [← hv]
  exact DPut.k (k := Sum.inr x) h (by show 6 < sizeLine; decide)
theorem Tp.nec {K : PySem.W.Frag} {H : Hp} {t c : Addr} {bs rs : Addr × List Str} {l p e : Int} {last : Option Str} (T : Tp K H t) (h : Kit H c bs rs l p e last) : c ≠ t := by
  obtain ⟨e1, _⟩ := h.ex
  exact T.ne e1 fun _ _ _ _ z => nomatch z
theorem Kp.c2 {t c : Addr} {H H' : Hp} (k : Kp [c] H H') : Kp [t, c] H H' := k.sub fun b hb => by simp [List.mem_singleton.mp hb]
/-- a new thing is not the kit, nor the tape -/
theorem Gn.off {K : PySem.W.Frag} {H : Hp} {t c b : Addr} {tv : V} {bs rs : Addr × List Str} {ts nms : List Str} {l p e : Nat} {last : Option Str} (g : Gn K H t c tv bs rs ts nms l p e last) (h : H b = none) : b ∉ [t, c] := by
  obtain ⟨e1, _⟩ := g.G.Kt.ex
  have h1 := g.G.T.new h
  have h2 := (ne_of_none e1 h).symm
  simp [h1, h2]

section
variable {P : Program} {w : World} {K : PySem.W.Frag} {mg : Str → Option Value} {base : Heap} {f : Addr} {fd : FuncData} {k : Nat}
def spPlain (K : PySem.W.Frag) (b : Nat) : Sp := fun vs H Q _ => ∃ (t c : Addr) (tv : V) (bs rs : Addr × List Str) (ts nms : List Str) (l p e : Nat) (last : Option Str) (m : Nat), vs = [.ref t, .ref c, tv, .int m] ∧ 3 * m + 1 + 10 * e < b ∧ Gn K H t c tv bs rs ts nms l p e last ∧
  ∀ v d H' l' p' e', Gp K H H' t c bs rs ts nms (m + 1 + 3 * e) l p e 1 last [d] l' p' e' → Dat H' v d → Q v H'
def spLine (K : PySem.W.Frag) (b : Nat) : Sp := fun vs H Q _ => ∃ (t c : Addr) (tv : V) (bs rs : Addr × List Str) (ts nms : List Str) (l p e : Nat) (last : Option Str) (m : Nat), vs = [.ref t, .ref c, tv, .int m] ∧ 3 * m + 2 + 10 * e < b ∧ Gn K H t c tv bs rs ts nms l p e last ∧
  ∀ v d H' l' p' e', Gp K H H' t c bs rs ts nms (m + 1 + 3 * e) l p e 1 last [d] l' p' e' → Dat H' v d → Q v H'
def spEach (K : PySem.W.Frag) (b : Nat) : Sp := fun vs H Q _ => ∃ (t c : Addr) (tv : V) (bs rs : Addr × List Str) (ts nms : List Str) (l p e : Nat) (last : Option Str) (m : Nat), vs = [.ref t, .ref c, .int m] ∧ 3 * m + 1 + 10 * e < b ∧ 0 < e ∧ Gn K H t c tv bs rs ts nms l p e last ∧
  ∀ v d H' l' p' e', Gp K H H' t c bs rs ts nms (m + 1 + 3 * e) l p e 1 last [d] l' p' e' → Dat H' v d → Q v H'
def spLines (K : PySem.W.Frag) (b : Nat) : Sp := fun vs H Q _ => ∃ (t c : Addr) (tv : V) (bs rs : Addr × List Str) (ts nms : List Str) (l p e : Nat) (last : Option Str) (m : Nat), vs = [.ref t, .ref c, tv, .int m] ∧ 3 * m + 3 + 10 * e < b ∧ Gn K H t c tv bs rs ts nms l p e last ∧
  ∀ v ds H' l' p' e', Gp K H H' t c bs rs ts nms (m + 1 + 3 * e) l p e 0 last ds l' p' e' → ds.length ≤ 100 → Dat H' v (.tup ds) → Q v H'

theorem sc_law_lines : FnScope ["_law_tape_here", "_law_kit", "_law_turns", "_law_deep", "_law_lines_here", "_law_k"] ["_law_tape_here", "_law_kit", "_law_turns", "_law_deep"] (defScope (Vh.top 17)) := ⟨rfl, rfl, rfl, by decide +kernel, rfl, by decide +kernel, by decide +kernel⟩
theorem ok_lines {b : Nat} (F : Fun K "_law_lines" "_law_lines" (Vh.top 17) f fd) (B : Blt mg) (C_law_draw : Cl P w K mg base k "_law_draw" (spDraw K)) (C_law_line : Cl P w K mg base k "_law_line" (spLine K b)) :
    FnOk P w K mg base CX0 (k + 1) f fd ["_law_tape_here", "_law_kit", "_law_turns", "_law_deep"] (spLines K (b + 1)) := by
  refine F.ok sc_law_lines (fun vs H Q E h => ?_) (fun cdv A outer s H vs Q E hr h => ?_)
  · obtain ⟨t, c, tv, _, _, _, _, _, _, _, _, _, rfl, _⟩ := h
    rfl
  obtain ⟨t, c, tv, bs, rs, ts, nms, l, p, e, last, m, rfl, hb, G, q⟩ := h
  refine ⟨_, (pss_cons (ps_set (i := 4) sc_law_lines.nd rfl (Or.inl rfl) (pe_lst pa_nil))
  (pss_cons (ps_for PassesOwn.never rfl (pi_range1 (by rfl) B.range_ (pa_cons (pe_op op_sub (pe_op op_add pe_int (pe_cl C_law_draw hr (by rfl) (pa_cons (pv 0) (pa_cons pe_int pa_nil)))) (pe_callTy call_int1 (by rfl) B.int_ (by decide +kernel) (pa_cons (pe_cmpR op_lt (pv 3) pe_int (nomark _)) pa_nil))) pa_nil)) (pg_name (i := 5) sc_law_lines.nd rfl (.inl rfl)) (pss_one (ps_if (pt_cmpR op_gt (pe_dget (hu_of hr) (pv 1) pe_str (fun _ _ => rfl)) pe_int (nomark _)) (pss_cons (ps_dput (hu_of hr) (pv 1) pe_str (pe_op op_sub (pe_dget (hu_of hr) (pv 1) pe_str (fun _ _ => rfl)) pe_int) rfl)
  (pss_one (ps_expr (pe_bm PySem.F.plainAttrs_list PySem.F.slot_list_append PySem.F.type_list_append mt_append (pv 4) (pa_cons (pe_cl C_law_line hr (by rfl) (pa_cons (pv 0) (pa_cons (pv 1) (pa_cons (pv 2) (pa_cons (pv 3) pa_nil))))) pa_nil))))) pss_nil)))
  (pss_one (ps_ret (pe_callTy call_tuple_of (by rfl) B.tuple_ (by decide +kernel) (pa_cons (pv 4) pa_nil)))))), ?_⟩
  refine ⟨szb, fun A hA => ?_⟩
  have At : A ∉ [t, c] := G.off hA
  refine ⟨_, rfl, t, 3, rfl, by decide, by decide, G.G.T.same (same_new hA _), fun r H1 r0 r1 k1 T1 => ?_⟩
  have n : ∃ n : Nat, n ≤ 3 ∧ (1 + r - (if decide ((m : Int) < 2) = true then 1 else 0) : Int) = (n : Int) := by
    by_cases h : (m : Int) < 2
    · rw [decide_eq_true h, if_pos rfl]; exact ⟨r.toNat, by omega, by omega⟩
    · rw [decide_eq_false h, if_neg Bool.false_ne_true]; exact ⟨(1 + r).toNat, by omega, by omega⟩
  obtain ⟨n, hn, en⟩ := n
  refine ⟨_, _, rfl, rfl, _, rfl, _, _, rfl, rfl, .inr ⟨_, rfl, _, _, rfl, rfl, (n : Int), congrArg (fun z => [V.int z]) en, by omega, by omega, ?_⟩⟩
  have e1 : H1 A = some (.lst []) := k1.at1 (by simp at At; exact At.1) upd_same
  refine for_range (lo := 0) (n := (n : Int).toNat) (fun i σ H3 => (∃ y5, σ = [some (.ref t), some (.ref c), some tv, some (.int m), some (.ref A), y5]) ∧ ∃ xs ds l' p' e', H3 A = some (.lst xs) ∧ Dats H3 xs ds ∧ ds.length ≤ i ∧
    Gp K H H3 t c bs rs ts nms (m + 1 + 3 * e) l p e 0 last ds l' p' e') ?_ (fun i σ H3 hi hP => ?_) fun σ H3 hP => ?_
  · refine ⟨⟨_, rfl⟩, [], [], l, p, e, e1, .nil, by simp, ⟨⟨0, 0, .nil, by omega, by omega⟩, (Kp.new hA).trans k1.tc, T1, (G.G.Kt.kp G.G.T ((Kp.new hA).trans k1)), by omega, by omega, by omega, fun _ => rfl⟩⟩
  · obtain ⟨⟨y5, rfl⟩, xs, ds, l3, p3, e3, eA, dA, hl3, g3⟩ := hP
    obtain ⟨c1, c2, c3⟩ := g3.Kt.ex
    refine ⟨_, rfl, c, _, rfl, kit_get c1 kit_left, _, _, rfl, rfl, _, rfl, ?_⟩
    refine ite2 (fun h0 => ?_) (fun h0 => ⟨⟨_, rfl⟩, xs, ds, l3, p3, e3, eA, dA, by omega, g3⟩)
    have h0' : (0 : Int) < (l3 : Int) := of_decide_eq_true h0
    obtain ⟨l4, rfl⟩ : ∃ l4, l3 = l4 + 1 := ⟨l3 - 1, by omega⟩
    refine ⟨_, rfl, c, _, rfl, kit_get c1 kit_left, _, _, rfl, rfl, _, rfl, c, _, rfl, kit_put (l' := l4) (p' := p3) (e' := e3) c1 ?_, ?_⟩
    · have z : ((l4 + 1 : Nat) : Int) - 1 = (l4 : Int) := by omega
      dsimp only
      rw [z]; rfl
    obtain ⟨Kt4, k4⟩ := g3.Kt.upd l4 p3 e3
    have G4 := G.next (g3.k.trans k4.c2) (g3.T.kp k4 (by simpa using (g3.T.nec g3.Kt).symm)) Kt4 g3.he
    generalize upd H3 c (.dK (kitL bs.1 rs.1 l4 p3 e3 last)) = H4 at *
    have eA4 : H4 A = some (.lst xs) := k4.at1 (by simp at At; exact At.2) eA
    refine ⟨_, rfl, .inl ⟨rfl, _, .of eA4⟩, _, rfl, _, rfl, _, rfl, _, rfl, t, c, tv, bs, rs, ts, nms, l4, p3, e3, last, m, rfl, ?_, G4, fun v d H5 l5 p5 e5 g5 dv => ?_⟩
    · have := g3.he; omega
    have eA5 : H5 A = some (.lst xs) := g5.k.all _ _ At eA4
    have k35 : Kp [t, c] H3 H5 := k4.c2.trans g5.k
    refine ⟨A, xs, v, rfl, rfl, eA5, ?_, ⟨_, rfl⟩, xs ++ [v], ds ++ [d], l5, p5, e5, upd_same, ((k35.dats dA).snoc dv).lst eA5 _, by simp; omega, ?_⟩
    · rw [dA.len]; exact small1000 (by omega)
    · have h1 := g3.he; have h2 := g3.hl; have h3 := g3.hp
      have h5 := g5.he; have h6 := g5.hl; have h7 := g5.hp
      obtain ⟨w1, x1, L1, a1, b1⟩ := g3.ln
      obtain ⟨w2, x2, L2, a2, b2⟩ := g5.ln
      refine ⟨⟨w1 + w2, x1 + x2, L1.app (L2.up (by omega)), by omega, ?_⟩, (g3.k.trans k35).putN hA, g5.T.lst eA5 _ (by simp at At; exact At.1), g5.Kt.put (G.G.Kt.off hA) _, by omega, by omega, by omega, fun z => by rw [g5.ht z, g3.ht z]⟩
      · have := mm_add b1 b2 h1
        rw [show 0 + (l - (l4 + 1)) + (1 + (l4 - l5)) = 0 + (l - l5) by omega] at this
        exact this
  · obtain ⟨⟨y5, rfl⟩, xs, ds, l3, p3, e3, eA, dA, hl3, g3⟩ := hP
    refine ⟨_, rfl, A, xs, rfl, .inl ⟨.of eA, fun x hx => ?_⟩⟩
    refine q _ ds _ l3 p3 e3 ⟨g3.ln, g3.k.trans (.new hx), g3.T.same (same_new hx _), g3.Kt.kp g3.T (.new hx), g3.hl, g3.hp, g3.he, g3.ht⟩ (by omega) (.made hx dA)
end
end Vw

set_option maxHeartbeats 4000000
/-! plain lines, lines, eaches -/
namespace Vw
open PySem PySem.Spec PyProof.Rows L2
open C8 (pss_cut tCut)

section
variable {P : Program} {w : World} {K : PySem.W.Frag} {mg : Str → Option Value} {base : Heap} {f : Addr} {fd : FuncData} {k : Nat}
theorem sc_law_plain : FnScope ["_law_tape_here", "_law_kit", "_law_turns", "_law_deep", "_law_key_here", "_law_tag", "_law_sets", "_law_hands_here", "_law_lines_here"] ["_law_tape_here", "_law_kit", "_law_turns", "_law_deep"] (defScope (Vh.top 13)) := ⟨rfl, rfl, rfl, by decide +kernel, rfl, by decide +kernel, by decide +kernel⟩
theorem ok_plain {b : Nat} (F : Fun K "_law_plain" "_law_plain" (Vh.top 13) f fd) (B : Blt mg) (C_law_draw : Cl P w K mg base k "_law_draw" (spDraw K)) (C_law_names : Cl P w K mg base k "_law_names" (spNames K)) (C_law_key : Cl P w K mg base k "_law_key" (spKey K))
    (C_law_pairs : Cl P w K mg base k "_law_pairs" (spPairs K)) (C_law_hands : Cl P w K mg base k "_law_hands" (spHands K)) (C_law_lines : Cl P w K mg base k "_law_lines" (spLines K b)) :
    FnOk P w K mg base CX0 (k + 1) f fd ["_law_tape_here", "_law_kit", "_law_turns", "_law_deep"] (spPlain K (b + 1)) := by
  refine F.ok sc_law_plain (fun vs H Q E h => ?_) (fun cdv A outer s H vs Q E hr h => ?_)
  · obtain ⟨t, c, tv, _, _, _, _, _, _, _, _, _, rfl, _⟩ := h
    rfl
  obtain ⟨t, c, tv, bs, rs, ts, nms, l, p, e, last, m, rfl, hb, G, q⟩ := h
  refine ⟨_, (pss_cons (ps_set (i := 4) sc_law_plain.nd rfl (Or.inl rfl) (pe_cl C_law_key hr (by rfl) (pa_cons (pv 0) (pa_cons (pv 1) (pa_cons (pv 2) pa_nil)))))
  (pss_cons (ps_set (i := 5) sc_law_plain.nd rfl (Or.inl rfl) (pe_ix ix_list (pe_cl C_law_names hr (by rfl) (pa_cons (pv 0) (pa_cons pe_int pa_nil))) pe_int (fun _ _ => rfl)))
  (pss_cons (ps_set (i := 6) sc_law_plain.nd rfl (Or.inl rfl) (pe_cl C_law_pairs hr (by rfl) (pa_cons (pv 0) (pa_cons (pv 1) (pa_cons (pv 2) (pa_cons pe_int pa_nil))))))
  (pss_cons (ps_set (i := 7) sc_law_plain.nd rfl (Or.inl rfl) (pe_cl C_law_hands hr (by rfl) (pa_cons (pv 0) (pa_cons (pv 1) (pa_cons (pv 2) pa_nil)))))
  (pss_cons (ps_set (i := 8) sc_law_plain.nd rfl (Or.inl rfl) (pe_tup pa_nil))
  (pss_cut (ps_if (PW.pt (pw_and (pt_cmpR op_gt (pv 3) pe_int (nomark _)) (pw_and1 (pt_cmpR op_eq (pe_cl C_law_draw hr (by rfl) (pa_cons (pv 0) (pa_cons pe_int pa_nil))) pe_int (nomark _))))) (pss_one (ps_set (i := 8) sc_law_plain.nd rfl (Or.inl rfl) (pe_cl C_law_lines hr (by rfl) (pa_cons (pv 0) (pa_cons (pv 1) (pa_cons (pv 2) (pa_cons (pe_op op_sub (pv 3) pe_int) pa_nil))))))) pss_nil)
  (pss_one (ps_ret (pe_tup (pa_cons pe_str (pa_cons (pv 4) (pa_cons (pv 5) (pa_cons (pv 6) (pa_cons (pv 7) (pa_cons (pv 8) pa_nil))))))))))))))), ?_⟩
  refine ⟨_, rfl, _, rfl, _, rfl, t, c, tv, bs, rs, ts, l, p, e, last, rfl, G.G, fun kv kd H1 hk dk k1 T1 => ?_⟩
  have G1 := G.kp k1 T1
  refine ⟨_, rfl, t, 1, rfl, by decide, T1, fun n xs H2 hxs hnd k2 T2 hn e2 => ?_⟩
  obtain ⟨tag, rfl⟩ : ∃ x, xs = [x] := by
    match xs, hxs with
    | [x], _ => exact ⟨x, rfl⟩
  refine ⟨n, _, _, _, rfl, rfl, .of e2, rfl, ?_⟩
  have G2 := G1.kp k2 T2
  refine ⟨_, rfl, _, rfl, _, rfl, t, c, tv, bs, rs, ts, l, p, e, last, 2, rfl, by decide, by decide, G2.G, fun sv sets H3 hs hsl ds k3 T3 => ?_⟩
  have G3 := G2.kp k3 T3
  refine ⟨_, rfl, _, rfl, _, rfl, t, c, tv, bs, rs, ts, l, p, e, last, rfl, G3.G, fun hv hands H4 hh hhl dh k4 T4 => ?_⟩
  have G4 := G3.kp k4 T4
  refine ⟨szb, fun u hu => ?_⟩
  have G5 := G4.same (same_new hu (.tup []))
  have k45 : Kp [t] H4 (upd H4 u (.tup [])) := .new hu
  have du : Dat (upd H4 u (.tup [])) (.ref u) (.tup []) := .made hu .nil
  generalize upd H4 u (.tup []) = H5 at *
  refine ⟨fun σ' H' => ∃ lv row l' p' e', σ' = [some (.ref t), some (.ref c), some tv, some (.int m), some kv, some (.str tag), some sv, some hv, some lv] ∧ Gp K H5 H' t c bs rs ts nms (m + 3 * e) l p e 0 last row l' p' e' ∧ Dat H' lv (.tup row), ?_, ?_⟩
  · have idle : Gp K H5 H5 t c bs rs ts nms (m + 3 * e) l p e 0 last [] l p e := ⟨⟨0, 0, .nil, by omega, by omega⟩, .refl, G5.G.T, G5.G.Kt, by omega, by omega, by omega, fun _ => rfl⟩
    refine ⟨_, rfl, _, _, rfl, rfl, _, rfl, ?_⟩
    refine ite2 (fun c1 => ?_) (fun c1 => iteF ⟨_, [], l, p, e, rfl, idle, du⟩)
    have c1' : (0 : Int) < (m : Int) := of_decide_eq_true c1
    obtain ⟨m, rfl⟩ : ∃ m', m = m' + 1 := ⟨m - 1, by omega⟩
    refine ⟨_, rfl, t, 2, rfl, by decide, by decide, G5.G.T, fun r H6 r0 r1 k6 T6 => ?_⟩
    have G6 := G5.kp k6 T6
    refine ⟨rfl, _, rfl, ?_⟩
    have z : (((m + 1 : Nat) : Int) - 1) = (m : Int) := by omega
    refine ite2 (fun c2 => ?_) (fun c2 => ⟨_, [], l, p, e, rfl, ⟨idle.ln, k6.tc, T6, G6.G.Kt, by omega, by omega, by omega, fun _ => rfl⟩, k6.dat du⟩)
    refine ⟨_, rfl, _, rfl, _, rfl, _, rfl, _, _, rfl, rfl, t, c, tv, bs, rs, ts, nms, l, p, e, last, m, by dsimp only; rw [z]; rfl, by omega, G6, fun v ds H7 l' p' e' g hl dv => ?_⟩
    refine ⟨v, ds, l', p', e', rfl, ⟨?_, k6.tc.trans g.k, g.T, g.Kt, g.hl, g.hp, g.he, g.ht⟩, dv⟩
    rw [show m + 1 + 3 * e = m + 1 + 3 * e from rfl]
    exact g.ln
  · rintro _ H6 ⟨lv, row, l', p', e', rfl, g, dl⟩
    refine ⟨_, rfl, _, rfl, _, rfl, _, rfl, _, rfl, szb, fun v hv => ?_⟩
    have kk : Kp [t, c] H4 H6 := k45.tc.trans g.k
    obtain ⟨w1, x1, L1, a1, b1⟩ := g.ln
    refine q _ (.tup [.str "plain", kd, .str tag, .tup sets, .tup hands, .tup row]) _ l' p' e' ⟨⟨w1 + 0, 1 + x1 + 0, ?_, by omega, ?_⟩, ?_, g.T.same (same_new hv _), g.Kt.kp g.T (.new hv), g.hl, g.hp, g.he, g.ht⟩ ?_
    · exact (Lns.plain hk hs hh hsl hhl L1 .nil).up (by omega)
    · have := mm_one e
      rw [Nat.mul_add]
      rw [Nat.mul_add] at b1
      omega
    · exact k1.tc.trans (k2.tc.trans (k3.tc.trans (k4.tc.trans (kk.trans (.new hv)))))
    · refine .made hv (.cons .str (.cons (kk.dat (k4.dat (k3.dat (k2.dat dk)))) (.cons .str (.cons (kk.dat (k4.dat ds)) (.cons (kk.dat dh) (.cons dl .nil))))))
end
end Vw

set_option maxHeartbeats 4000000
/-! a line -/
namespace Vw
open PySem PySem.Spec PyProof.Rows L2
open C8 (pss_cut tCut)

theorem three_at {b : Int} (h0 : 0 ≤ b) (h1 : b < 3) : ∃ x : Str, atI [V.str "a", .str "ab", .str "b"] b = some (.str x) := by
  have : b = 0 ∨ b = 1 ∨ b = 2 := by omega
  rcases this with rfl | rfl | rfl <;> exact ⟨_, rfl⟩
theorem mul_one_le {a b : Nat} (e : Nat) (h : a ≤ b) : mm e * a ≤ mm e * b := Nat.mul_le_mul_left _ h

section
variable {P : Program} {w : World} {K : PySem.W.Frag} {mg : Str → Option Value} {base : Heap} {f : Addr} {fd : FuncData} {k : Nat}
theorem sc_law_line : FnScope ["_law_tape_here", "_law_kit", "_law_turns", "_law_deep", "_law_way", "_law_name", "_law_key_here", "_law_number_here", "_law_lines_here"] ["_law_tape_here", "_law_kit", "_law_turns", "_law_deep"] (defScope (Vh.top 16)) := ⟨rfl, rfl, rfl, by decide +kernel, rfl, by decide +kernel, by decide +kernel⟩
theorem ok_line {b : Nat} (F : Fun K "_law_line" "_law_line" (Vh.top 16) f fd) (B : Blt mg) (C_law_draw : Cl P w K mg base k "_law_draw" (spDraw K)) (C_law_key : Cl P w K mg base k "_law_key" (spKey K)) (C_law_sum : Cl P w K mg base k "_law_sum" (spSum K 3))
    (C_law_part_line : Cl P w K mg base k "_law_part_line" (spPartLine K)) (C_law_each : Cl P w K mg base k "_law_each" (spEach K b)) (C_law_plain : Cl P w K mg base k "_law_plain" (spPlain K b)) (C_law_lines : Cl P w K mg base k "_law_lines" (spLines K b)) :
    FnOk P w K mg base CX0 (k + 1) f fd ["_law_tape_here", "_law_kit", "_law_turns", "_law_deep"] (spLine K (b + 1)) := by
  refine F.ok sc_law_line (fun vs H Q E h => ?_) (fun cdv A outer s H vs Q E hr h => ?_)
  · obtain ⟨t, c, tv, _, _, _, _, _, _, _, _, _, rfl, _⟩ := h
    rfl
  obtain ⟨t, c, tv, bs, rs, ts, nms, l, p, e, last, m, rfl, hb, G, q⟩ := h
  refine ⟨_, (pss_cons (ps_set (i := 4) sc_law_line.nd rfl (Or.inl rfl) (pe_cl C_law_draw hr (by rfl) (pa_cons (pv 0) (pa_cons pe_int pa_nil))))
  (pss_cut (ps_if (PW.pt (pw_and (pt_cmpR op_lt (pv 4) pe_int (nomark _)) (pw_and (pt_cmpR op_gt (pe_dget (hu_of hr) (pv 1) pe_str (fun _ _ => rfl)) pe_int (nomark _)) (pw_and (pt_cmpR op_gt (pe_callB call_len_seq (by rfl) B.len_ (by decide +kernel) (pa_cons (pe_dget (hu_of hr) (pv 1) pe_str (fun _ _ => rfl)) pa_nil)) pe_int (nomark _)) (pw_and1 (pt_cmpR (op_eqTE hr.units0) (pv 2) (pe_tup pa_nil) (nomark _))))))) (pss_cons (ps_dput (hu_of hr) (pv 1) pe_str (pe_op op_sub (pe_dget (hu_of hr) (pv 1) pe_str (fun _ _ => rfl)) pe_int) rfl)
  (pss_one (ps_ret (pe_cl C_law_part_line hr (by rfl) (pa_cons (pv 0) (pa_cons (pv 1) (pa_cons (pv 2) (pa_cons (pe_ix ix_list (pe_dget (hu_of hr) (pv 1) pe_str (fun _ _ => rfl)) (pe_cl C_law_draw hr (by rfl) (pa_cons (pv 0) (pa_cons (pe_callB call_len_seq (by rfl) B.len_ (by decide +kernel) (pa_cons (pe_dget (hu_of hr) (pv 1) pe_str (fun _ _ => rfl)) pa_nil)) pa_nil))) (fun _ _ => rfl)) pa_nil)))))))) pss_nil)
  (pss_cut (ps_if (PW.pt (pw_and (pt_cmpR op_eq (pv 4) pe_int (nomark _)) (pw_and1 (pt_cmpR op_gt (pv 3) pe_int (nomark _))))) (pss_cons (ps_set (i := 5) sc_law_line.nd rfl (Or.inl rfl) (pe_ix ix_list (pe_lst (pa_cons pe_str (pa_cons pe_str (pa_cons pe_str pa_nil)))) (pe_cl C_law_draw hr (by rfl) (pa_cons (pv 0) (pa_cons pe_int pa_nil))) (fun _ _ => rfl)))
  (pss_cons (ps_set (i := 6) sc_law_line.nd rfl (Or.inl rfl) (pe_cl C_law_key hr (by rfl) (pa_cons (pv 0) (pa_cons (pv 1) (pa_cons (pv 2) pa_nil)))))
  (pss_one (ps_ret (pe_tup (pa_cons pe_str (pa_cons (pv 6) (pa_cons (pv 5) (pa_cons (pe_cl C_law_sum hr (by rfl) (pa_cons (pv 0) (pa_cons (pv 1) (pa_cons (pv 2) (pa_cons pe_int pa_nil))))) (pa_cons (pe_cl C_law_lines hr (by rfl) (pa_cons (pv 0) (pa_cons (pv 1) (pa_cons (pv 2) (pa_cons (pe_op op_sub (pv 3) pe_int) pa_nil))))) pa_nil)))))))))) pss_nil)
  (pss_cut (ps_if (PW.pt (pw_and (pt_cmpR op_eq (pv 4) pe_int (nomark _)) (pw_and1 (pt_cmpR op_gt (pv 3) pe_int (nomark _))))) (pss_cons (ps_set (i := 7) sc_law_line.nd rfl (Or.inl rfl) (pe_cl C_law_sum hr (by rfl) (pa_cons (pv 0) (pa_cons (pv 1) (pa_cons (pv 2) (pa_cons pe_int pa_nil))))))
  (pss_cons (ps_set (i := 8) sc_law_line.nd rfl (Or.inl rfl) (pe_cl C_law_lines hr (by rfl) (pa_cons (pv 0) (pa_cons (pv 1) (pa_cons (pv 2) (pa_cons (pe_op op_sub (pv 3) pe_int) pa_nil))))))
  (pss_one (ps_ret (pe_tup (pa_cons pe_str (pa_cons (pv 7) (pa_cons (pv 8) (pa_cons (pe_cl C_law_lines hr (by rfl) (pa_cons (pv 0) (pa_cons (pv 1) (pa_cons (pv 2) (pa_cons (pe_op op_sub (pv 3) pe_int) pa_nil))))) pa_nil))))))))) pss_nil)
  (pss_cut (ps_if (PW.pt (pw_and (pt_cmpR op_gt (pv 4) pe_int (nomark _)) (pw_and1 (pt_cmpR op_gt (pe_dget (hu_of hr) (pv 1) pe_str (fun _ _ => rfl)) pe_int (nomark _))))) (pss_one (ps_ret (pe_cl C_law_each hr (by rfl) (pa_cons (pv 0) (pa_cons (pv 1) (pa_cons (pv 3) pa_nil)))))) pss_nil)
  (pss_one (ps_ret (pe_cl C_law_plain hr (by rfl) (pa_cons (pv 0) (pa_cons (pv 1) (pa_cons (pv 2) (pa_cons (pv 3) pa_nil)))))))))))), ?_⟩
  refine ⟨_, rfl, t, 9, rfl, by decide, by decide, G.G.T, fun a H1 a0 a1 k1 T1 => ?_⟩
  have G1 := G.kp k1 T1
  obtain ⟨ta, txs, rfl, et, dt⟩ := Dat.tup_inv G1.G.hd
  -- a part
  refine ⟨fun σ' H' => σ' = [some (.ref t), some (.ref c), some (.ref ta), some (.int m), some (.int a), none, none, none, none] ∧ Same H1 H', ?_, ?_⟩
  · obtain ⟨c1, c2, c3⟩ := G1.G.Kt.ex
    refine ⟨_, rfl, _, _, rfl, rfl, _, rfl, ?_⟩
    refine ite2 (fun z1 => ?_) (fun z1 => iteF ⟨rfl, .refl _⟩)
    refine ⟨_, rfl, c, _, rfl, kit_get c1 kit_parts, _, _, rfl, rfl, _, rfl, ?_⟩
    refine ite2 (fun z2 => ?_) (fun z2 => iteF ⟨rfl, .refl _⟩)
    have z2' : (0 : Int) < (p : Int) := of_decide_eq_true z2
    obtain ⟨p, rfl⟩ : ∃ p', p = p' + 1 := ⟨p - 1, by omega⟩
    refine ⟨_, rfl, c, _, rfl, kit_get c1 kit_rest, rs.1, _, rfl, .inl (.of c3), _, _, rfl, rfl, _, rfl, ?_⟩
    refine ite2 (fun z3 => ?_) (fun z3 => iteF ⟨rfl, .refl _⟩)
    have z3' : (0 : Int) < ((rs.2.map V.str).length : Nat) := of_decide_eq_true z3
    rw [List.length_map] at z3'
    refine ⟨_, rfl, szb, fun u hu => ?_⟩
    refine ⟨ta, u, txs, rfl, rfl, .inl (Same.rd (same_new hu _) et), .inl (.inl upd_same), ?_⟩
    refine ⟨_, rfl, ?_⟩
    have G2 := G1.same (same_new hu (.tup []))
    have k2 : Kp [t, c] H1 (upd H1 u (.tup [])) := .new hu
    refine ite2 (fun z4 => ?_) (fun z4 => ⟨rfl, same_new hu _⟩)
    have ht : ts = [] := by
      have e1 := dt.len
      rw [List.length_map] at e1
      cases txs with
      | nil => exact List.eq_nil_of_length_eq_zero e1.symm
      | cons x y => cases z4
    generalize upd H1 u (.tup []) = H2 at *
    obtain ⟨c1, c2, c3⟩ := G2.G.Kt.ex
    refine ⟨_, rfl, c, _, rfl, kit_get c1 kit_parts, _, _, rfl, rfl, _, rfl, c, _, rfl, kit_put (l' := l) (p' := p) (e' := e) c1 ?_, ?_⟩
    · have z : ((p + 1 : Nat) : Int) - 1 = (p : Int) := by omega
      dsimp only
      rw [z]; rfl
    obtain ⟨Kt4, k4⟩ := G2.G.Kt.upd l p e
    have G4 := G2.next k4.c2 (G2.G.T.kp k4 (by simpa using (G2.G.T.nec G2.G.Kt).symm)) Kt4 (Nat.le_refl e)
    generalize upd H2 c (.dK (kitL bs.1 rs.1 l p e last)) = H4 at *
    obtain ⟨c1, c2, c3⟩ := Kt4.ex
    refine ⟨_, rfl, _, rfl, _, rfl, _, rfl, c, _, rfl, kit_get c1 kit_rest, _, rfl, _, rfl, c, _, rfl, kit_get c1 kit_rest, rs.1, _, rfl, .inl (.of c3), t, _, rfl, ?_, ?_, G4.G.T, fun r H5 r0 r1 k5 T5 => ?_⟩
    · rw [List.length_map]; omega
    · rw [List.length_map]; have := G.hrs; omega
    have f5 := k5.at1 (G4.G.T.nes c3) c3
    obtain ⟨x, hm, hx⟩ := atI_lt (xs := rs.2.map V.str) r0 r1
    obtain ⟨y, hy, rfl⟩ := List.mem_map.mp hm
    have G5 := G4.kp k5 T5
    refine ⟨rs.1, _, _, _, rfl, rfl, .of f5, hx, t, c, _, bs, rs, ts, l, p, e, last, y, rfl, G5.G, fun v kd gs H6 hk hg hgl dv k6 T6 => ?_⟩
    refine q v _ H6 l p e ⟨⟨1, 1, ?_, by omega, ?_⟩, ?_, T6, (G5.kp k6 T6).G.Kt, by omega, by omega, by omega, fun z => absurd ht z⟩ dv
    · exact (Lns.part (G.hr y hy) hk hg hgl .nil).eq rfl rfl
    · have := mm_one e
      rw [Nat.mul_add]
      omega
    · exact k1.tc.trans (k2.trans (k4.c2.trans (k5.tc.trans k6.tc)))
  rintro _ H2 ⟨rfl, s2⟩
  have G2 := G1.same s2
  have k02 : Kp [t, c] H H2 := k1.tc.trans (.same s2)
  clear G1 et dt s2
  -- a give
  refine ⟨fun σ' H' => σ' = [some (.ref t), some (.ref c), some (.ref ta), some (.int m), some (.int a), none, none, none, none] ∧ H2 = H', ?_, ?_⟩
  · refine ⟨_, rfl, rfl, _, rfl, ?_⟩
    refine ite2 (fun z1 => ?_) (fun z1 => iteF ⟨rfl, rfl⟩)
    refine ⟨_, rfl, _, _, rfl, rfl, _, rfl, ?_⟩
    refine ite2 (fun z2 => ?_) (fun z2 => ⟨rfl, rfl⟩)
    have z2' : (0 : Int) < (m : Int) := of_decide_eq_true z2
    obtain ⟨m, rfl⟩ : ∃ m', m = m' + 1 := ⟨m - 1, by omega⟩
    have zm : (((m + 1 : Nat) : Int) - 1) = (m : Int) := by omega
    refine ⟨szb, fun l1 hl1 => ?_⟩
    have G3 := G2.same (same_new hl1 (.lst [.str "a", .str "ab", .str "b"]))
    refine ⟨_, rfl, t, 3, rfl, by decide, by decide, G3.G.T, fun r H4 r0 r1 k4 T4 => ?_⟩
    have G4 := G3.kp k4 T4
    obtain ⟨x, hx⟩ := three_at r0 r1
    have l4 := k4.at1 (G2.G.T.new hl1) upd_same
    refine ⟨l1, _, _, _, rfl, rfl, .of l4, hx, ?_⟩
    refine ⟨_, rfl, _, rfl, _, rfl, t, c, _, bs, rs, ts, l, p, e, last, rfl, G4.G, fun kv kd H5 hk dk k5 T5 => ?_⟩
    have G5 := G4.kp k5 T5
    refine ⟨_, rfl, _, rfl, _, rfl, _, rfl, _, rfl, t, c, _, bs, rs, ts, l, p, e, last, 1, rfl, by decide, G5.G, fun rv rd H6 hr dr k6 T6 => ?_⟩
    have G6 := G5.kp k6 T6
    refine ⟨_, rfl, _, rfl, _, rfl, _, rfl, _, _, rfl, rfl, t, c, _, bs, rs, ts, nms, l, p, e, last, m, by dsimp only; rw [zm]; rfl, by omega, G6, fun v row H7 l' p' e' g hl dv => ?_⟩
    refine ⟨szb, fun u hu => ?_⟩
    obtain ⟨w1, x1, L1, a1, b1⟩ := g.ln
    refine q _ (.tup [.str "give", kd, .str x, rd, .tup row]) _ l' p' e' ⟨⟨w1 + 0, 1 + x1 + 0, (Lns.give hk (hr.up (by decide)) L1 .nil).up (by omega), by omega, ?_⟩, ?_, g.T.same (same_new hu _), g.Kt.kp g.T (.new hu), g.hl, g.hp, g.he, g.ht⟩ ?_
    · have := mm_one e
      rw [Nat.mul_add]
      rw [Nat.mul_add] at b1
      omega
    · exact k02.trans ((Kp.new hl1).trans (k4.tc.trans (k5.tc.trans (k6.tc.trans (g.k.trans (.new hu))))))
    · exact .made hu (.cons .str (.cons (g.k.dat (k6.dat dk)) (.cons .str (.cons (g.k.dat dr) (.cons dv .nil)))))
  rintro _ _ ⟨rfl, rfl⟩
  -- a when
  refine ⟨fun σ' H' => σ' = [some (.ref t), some (.ref c), some (.ref ta), some (.int m), some (.int a), none, none, none, none] ∧ H2 = H', ?_, ?_⟩
  · refine ⟨_, rfl, rfl, _, rfl, ?_⟩
    refine ite2 (fun z1 => ?_) (fun z1 => iteF ⟨rfl, rfl⟩)
    refine ⟨_, rfl, _, _, rfl, rfl, _, rfl, ?_⟩
    refine ite2 (fun z2 => ?_) (fun z2 => ⟨rfl, rfl⟩)
    have z2' : (0 : Int) < (m : Int) := of_decide_eq_true z2
    obtain ⟨m, rfl⟩ : ∃ m', m = m' + 1 := ⟨m - 1, by omega⟩
    have zm : (((m + 1 : Nat) : Int) - 1) = (m : Int) := by omega
    refine ⟨_, rfl, _, rfl, _, rfl, t, c, _, bs, rs, ts, l, p, e, last, 1, rfl, by decide, G2.G, fun rv rd H3 hr dr k3 T3 => ?_⟩
    have G3 := G2.kp k3 T3
    refine ⟨_, rfl, _, rfl, _, rfl, _, rfl, _, _, rfl, rfl, t, c, _, bs, rs, ts, nms, l, p, e, last, m, by dsimp only; rw [zm]; rfl, by omega, G3, fun v1 row1 H4 l4 p4 e4 g4 hl4 d4 => ?_⟩
    have G4 := G3.next g4.k g4.T g4.Kt g4.he
    have he4 := g4.he
    refine ⟨_, rfl, _, rfl, _, rfl, _, rfl, _, rfl, _, rfl, _, _, rfl, rfl, t, c, _, bs, rs, ts, nms, l4, p4, e4, last, m, by dsimp only; rw [zm]; rfl, by omega, G4, fun v2 row2 H5 l5 p5 e5 g5 hl5 d5 => ?_⟩
    refine ⟨szb, fun u hu => ?_⟩
    have h1 := g4.hl; have h2 := g4.hp
    have h3 := g5.hl; have h4 := g5.hp; have h5 := g5.he
    obtain ⟨w1, x1, L1, a1, b1⟩ := g4.ln
    obtain ⟨w2, x2, L2, a2, b2⟩ := g5.ln
    refine q _ (.tup [.str "when", rd, .tup row1, .tup row2]) _ l5 p5 e5 ⟨⟨w1 + w2 + 0, x1 + x2 + 0, (Lns.when (hr.up (by decide)) L1 (L2.up (by omega)) .nil).up (by omega), by omega, ?_⟩, ?_, g5.T.same (same_new hu _), g5.Kt.kp g5.T (.new hu), by omega, by omega, by omega, fun z => by rw [g5.ht z, g4.ht z]⟩ ?_
    · have := mm_add b1 b2 he4
      exact Nat.le_trans this (mul_one_le e (by omega))
    · exact k02.trans (k3.tc.trans (g4.k.trans (g5.k.trans (.new hu))))
    · exact .made hu (.cons .str (.cons (g5.k.dat (g4.k.dat dr)) (.cons (g5.k.dat d4) (.cons d5 .nil))))
  rintro _ _ ⟨rfl, rfl⟩
  -- an each
  refine ⟨fun σ' H' => σ' = [some (.ref t), some (.ref c), some (.ref ta), some (.int m), some (.int a), none, none, none, none] ∧ H2 = H', ?_, ?_⟩
  · refine ⟨_, rfl, _, _, rfl, rfl, _, rfl, ?_⟩
    refine ite2 (fun z1 => ?_) (fun z1 => iteF ⟨rfl, rfl⟩)
    obtain ⟨c1, c2, c3⟩ := G2.G.Kt.ex
    refine ⟨_, rfl, c, _, rfl, kit_get c1 kit_eaches, _, _, rfl, rfl, _, rfl, ?_⟩
    refine ite2 (fun z2 => ?_) (fun z2 => ⟨rfl, rfl⟩)
    have z2' : (0 : Int) < (e : Int) := of_decide_eq_true z2
    refine ⟨_, rfl, _, rfl, _, rfl, t, c, _, bs, rs, ts, nms, l, p, e, last, m, rfl, by omega, by omega, G2, fun v d H3 l' p' e' g dv => ?_⟩
    exact q v d H3 l' p' e' ⟨g.ln, k02.trans g.k, g.T, g.Kt, g.hl, g.hp, g.he, g.ht⟩ dv
  rintro _ _ ⟨rfl, rfl⟩
  refine ⟨_, rfl, _, rfl, _, rfl, _, rfl, t, c, _, bs, rs, ts, nms, l, p, e, last, m, rfl, by omega, G2, fun v d H3 l' p' e' g dv => ?_⟩
  exact q v d H3 l' p' e' ⟨g.ln, k02.trans g.k, g.T, g.Kt, g.hl, g.hp, g.he, g.ht⟩ dv
end
end Vw

set_option maxHeartbeats 4000000
/-! an each -/
namespace Vw
open PySem PySem.Spec PyProof.Rows L2
open C8 (pss_cut tCut)

section
variable {P : Program} {w : World} {K : PySem.W.Frag} {mg : Str → Option Value} {base : Heap} {f : Addr} {fd : FuncData} {k : Nat}
/-- the inner lines of an each -/
structure Ei (K : PySem.W.Frag) (H H3 : Hp) (t c A : Addr) (bs rs : Addr × List Str) (nm : Str) (nms : List Str) (l2 p : Nat) (last : Option Str) (i : Nat) (xs : List V) (ds : List D) (l3 : Nat) : Prop where
  eA : H3 A = some (.lst xs)
  dA : Dats H3 xs ds
  len : ds.length ≤ i
  ln : ∃ w x, Lns nms [nm] 2 w x ds ∧ 16 * w ≤ Bl last * i ∧ x ≤ l2 - l3
  k : Kp [t, c] H H3
  T : Tp K H3 t
  Kt : Kit H3 c bs rs l3 p (0 : Nat) last
  hl : l3 ≤ l2
theorem sc_law_each : FnScope ["_law_tape_here", "_law_kit", "_law_deep", "_law_name", "_law_number_here", "_law_spare", "_law_lines_here", "_law_k"] ["_law_tape_here", "_law_kit", "_law_deep"] (defScope (Vh.top 15)) := ⟨rfl, rfl, rfl, by decide +kernel, rfl, by decide +kernel, by decide +kernel⟩
theorem ok_each {b : Nat} (F : Fun K "_law_each" "_law_each" (Vh.top 15) f fd) (B : Blt mg) (C_law_draw : Cl P w K mg base k "_law_draw" (spDraw K)) (C_law_names : Cl P w K mg base k "_law_names" (spNames K)) (C_law_leaf : Cl P w K mg base k "_law_leaf" (spLeaf K))
    (C_law_part_line : Cl P w K mg base k "_law_part_line" (spPartLine K)) (C_law_line : Cl P w K mg base k "_law_line" (spLine K b)) :
    FnOk P w K mg base CX0 (k + 1) f fd ["_law_tape_here", "_law_kit", "_law_deep"] (spEach K (b + 1)) := by
  refine F.ok sc_law_each (fun vs H Q E h => ?_) (fun cdv A outer s H vs Q E hr h => ?_)
  · obtain ⟨t, c, tv, _, _, _, _, _, _, _, _, _, rfl, _⟩ := h
    rfl
  obtain ⟨t, c, tv, bs, rs, ts, nms, l, p, e, last, m, rfl, hb, he, G, q⟩ := h
  obtain rfl : e = 1 := by have := G.he; omega
  refine ⟨_, (pss_cons (ps_dput (hu_of hr) (pv 1) pe_str (pe_op op_sub (pe_dget (hu_of hr) (pv 1) pe_str (fun _ _ => rfl)) pe_int) rfl)
  (pss_cons (ps_set (i := 3) sc_law_each.nd rfl (Or.inl rfl) (pe_ix ix_list (pe_cl C_law_names hr (by rfl) (pa_cons (pv 0) (pa_cons pe_int pa_nil))) pe_int (fun _ _ => rfl)))
  (pss_cons (ps_set (i := 4) sc_law_each.nd rfl (Or.inl rfl) (pe_tup (pa_cons pe_str (pa_cons (pe_cl C_law_draw hr (by rfl) (pa_cons (pv 0) (pa_cons pe_int pa_nil))) pa_nil))))
  (pss_cut (ps_if (pt_cmpR op_eq (pe_cl C_law_draw hr (by rfl) (pa_cons (pv 0) (pa_cons pe_int pa_nil))) pe_int (nomark _)) (pss_one (ps_set (i := 4) sc_law_each.nd rfl (Or.inl rfl) (pe_cl C_law_leaf hr (by rfl) (pa_cons (pv 0) (pa_cons (pv 1) (pa_cons (pe_tup pa_nil) pa_nil)))))) pss_nil)
  (pss_cons (ps_set (i := 5) sc_law_each.nd rfl (Or.inl rfl) (pe_callB (call_max2 rfl) (by rfl) B.max_ (by decide +kernel) (pa_cons pe_int (pa_cons (pe_op op_add (pe_op op_sub (pe_dget (hu_of hr) (pv 1) pe_str (fun _ _ => rfl)) pe_int) (pe_callTy call_int1 (by rfl) B.int_ (by decide +kernel) (pa_cons (pe_cmpR op_notN (pe_dget (hu_of hr) (pv 1) pe_str (fun _ _ => rfl)) pe_non (nomark _)) pa_nil))) pa_nil))))
  (pss_cons (ps_dput (hu_of hr) (pv 1) pe_str (pe_op op_sub (pe_dget (hu_of hr) (pv 1) pe_str (fun _ _ => rfl)) (pv 5)) rfl)
  (pss_cons (ps_set (i := 6) sc_law_each.nd rfl (Or.inl rfl) (pe_lst pa_nil))
  (pss_cons (ps_for PassesOwn.never rfl (pi_range1 (by rfl) B.range_ (pa_cons (pe_op op_add pe_int (pe_cl C_law_draw hr (by rfl) (pa_cons (pv 0) (pa_cons pe_int pa_nil)))) pa_nil)) (pg_name (i := 7) sc_law_each.nd rfl (.inl rfl)) (pss_one (ps_if (pt_cmpR op_gt (pe_dget (hu_of hr) (pv 1) pe_str (fun _ _ => rfl)) pe_int (nomark _)) (pss_cons (ps_dput (hu_of hr) (pv 1) pe_str (pe_op op_sub (pe_dget (hu_of hr) (pv 1) pe_str (fun _ _ => rfl)) pe_int) rfl)
  (pss_one (ps_if (pt_cut (PW.pt (pw_and (pt_cmpR op_notN (pe_dget (hu_of hr) (pv 1) pe_str (fun _ _ => rfl)) pe_non (nomark _)) (pw_and1 (pt_cmpR op_eq (pe_cl C_law_draw hr (by rfl) (pa_cons (pv 0) (pa_cons pe_int pa_nil))) pe_int (nomark _)))))) (pss_one (ps_expr (pe_bm PySem.F.plainAttrs_list PySem.F.slot_list_append PySem.F.type_list_append mt_append (pv 6) (pa_cons (pe_cl C_law_part_line hr (by rfl) (pa_cons (pv 0) (pa_cons (pv 1) (pa_cons (pe_tup (pa_cons (pv 3) pa_nil)) (pa_cons (pe_dget (hu_of hr) (pv 1) pe_str (fun _ _ => rfl)) pa_nil))))) pa_nil)))) (pss_one (ps_expr (pe_bm PySem.F.plainAttrs_list PySem.F.slot_list_append PySem.F.type_list_append mt_append (pv 6) (pa_cons (pe_cl C_law_line hr (by rfl) (pa_cons (pv 0) (pa_cons (pv 1) (pa_cons (pe_tup (pa_cons (pv 3) pa_nil)) (pa_cons pe_int pa_nil))))) pa_nil))))))) pss_nil)))
  (pss_cons (ps_dput (hu_of hr) (pv 1) pe_str (pe_op op_add (pe_dget (hu_of hr) (pv 1) pe_str (fun _ _ => rfl)) (pv 5)) rfl)
  (pss_one (ps_ret (pe_tup (pa_cons pe_str (pa_cons (pv 3) (pa_cons (pv 4) (pa_cons (pe_callTy call_tuple_of (by rfl) B.tuple_ (by decide +kernel) (pa_cons (pv 6) pa_nil)) pa_nil)))))))))))))))), ?_⟩
  obtain ⟨c1, c2, c3⟩ := G.G.Kt.ex
  refine ⟨_, rfl, c, _, rfl, kit_get c1 kit_eaches, _, _, rfl, rfl, _, rfl, c, _, rfl, kit_put (l' := l) (p' := p) (e' := (0 : Nat)) c1 (by rfl), ?_⟩
  obtain ⟨Kt1, k1⟩ := G.G.Kt.upd l p (0 : Nat)
  have G1 := G.next k1.c2 (G.G.T.kp k1 (by simpa using (G.G.T.nec G.G.Kt).symm)) Kt1 (Nat.zero_le 1)
  generalize L2.upd H c (.dK (kitL bs.1 rs.1 l p (0 : Nat) last)) = H1 at *
  refine ⟨_, rfl, t, 1, rfl, by decide, G1.G.T, fun n xs H2 hxs hnd k2 T2 hn e2 => ?_⟩
  obtain ⟨nm, rfl⟩ : ∃ x, xs = [x] := by
    match xs, hxs with
    | [x], _ => exact ⟨x, rfl⟩
  refine ⟨n, _, _, _, rfl, rfl, .of e2, rfl, ?_⟩
  have G2 := G1.kp k2 T2
  refine ⟨_, rfl, t, 4, rfl, by decide, by decide, T2, fun r H3 r0 r1 k3 T3 => ?_⟩
  refine ⟨szb, fun u hu => ?_⟩
  have G3 := (G2.kp k3 T3).same (same_new hu (.tup [.str "num", .int r]))
  have d3 : Dat (L2.upd H3 u (.tup [.str "num", .int r])) (.ref u) (.tup [.str "num", .int r]) := .made hu (.cons .str (.cons .int .nil))
  have k03 : Kp [t, c] H (L2.upd H3 u (.tup [.str "num", .int r])) := k1.c2.trans (k2.tc.trans (k3.tc.trans (.new hu)))
  generalize L2.upd H3 u (.tup [.str "num", .int r]) = H3' at *
  refine ⟨fun σ' H' => ∃ nv nd, σ' = [some (.ref t), some (.ref c), some (.int m), some (.str nm), some nv, none, none, none] ∧ Rk [] 0 nd ∧ Dat H' nv nd ∧ Kp [t] H3' H' ∧ Tp K H' t, ?_, ?_⟩
  · refine ⟨_, rfl, t, 3, rfl, by decide, by decide, G3.G.T, fun r2 H4 s0 s1 k4 T4 => ?_⟩
    have G4 := G3.kp k4 T4
    refine ⟨rfl, _, rfl, ?_⟩
    refine ite2 (fun _ => ?_) (fun _ => ⟨_, _, rfl, .num (by unfold Sm; omega), k4.dat d3, k4, T4⟩)
    refine ⟨_, rfl, _, rfl, szb, fun u2 hu2 => ?_⟩
    have G5 := G4.same (same_new hu2 (.tup []))
    refine ⟨t, c, _, bs, rs, [], l, p, (0 : Nat), last, rfl, G5.G.T, G5.G.Kt, G5.G.hb, by decide, .made hu2 .nil, fun v d H5 hr dv k5 T5 => ?_⟩
    exact ⟨v, d, rfl, hr, dv, k4.trans ((Kp.new hu2).trans k5), T5⟩
  rintro _ H4 ⟨nv, nd, rfl, hnr, dn, k4, T4⟩
  have G4 := G3.kp k4 T4
  have k04 : Kp [t, c] H H4 := k03.trans k4.tc
  obtain ⟨c1, c2, c3⟩ := G4.G.Kt.ex
  -- the spare
  refine ⟨_, rfl, c, _, rfl, kit_get c1 kit_left, _, _, rfl, rfl, _, rfl, c, _, rfl, kit_get c1 kit_last, rfl, .inr ⟨_, rfl, _, _, rfl, rfl, _, _, rfl, ?_⟩⟩
  obtain ⟨s, hs, es⟩ : ∃ s : Nat, s ≤ l ∧ (if ((l : Int) - 3 + (if (!decide (lastV last = V.non)) = true then 1 else 0) > 0) then ((l : Int) - 3 + (if (!decide (lastV last = V.non)) = true then 1 else 0)) else 0) = (s : Int) := by
    by_cases hz : (!decide (lastV last = V.non)) = true
    · rw [if_pos hz]
      by_cases h2 : (l : Int) - 3 + 1 > 0
      · rw [if_pos h2]; exact ⟨l - 2, by omega, by omega⟩
      · rw [if_neg h2]; exact ⟨0, by omega, rfl⟩
    · rw [if_neg hz]
      by_cases h2 : (l : Int) - 3 + 0 > 0
      · rw [if_pos h2]; exact ⟨l - 3, by omega, by omega⟩
      · rw [if_neg h2]; exact ⟨0, by omega, rfl⟩
  rw [es]
  refine ⟨_, rfl, c, _, rfl, kit_get c1 kit_left, _, rfl, _, _, rfl, rfl, ?_⟩
  refine ⟨_, rfl, c, _, rfl, kit_put (l' := (l - s : Nat)) (p' := p) (e' := (0 : Nat)) c1 ?_, ?_⟩
  · have z : ((l : Int) - (s : Int)) = ((l - s : Nat) : Int) := by omega
    dsimp only
    rw [z]; rfl
  obtain ⟨Kt5, k5⟩ := G4.G.Kt.upd (l - s : Nat) p (0 : Nat)
  have G5 := G4.next k5.c2 (G4.G.T.kp k5 (by simpa using (G4.G.T.nec G4.G.Kt).symm)) Kt5 (Nat.zero_le 0)
  generalize L2.upd H4 c (.dK (kitL bs.1 rs.1 (l - s : Nat) p (0 : Nat) last)) = H5 at *
  refine ⟨szb, fun A hA => ?_⟩
  have At : A ∉ [t, c] := G5.off hA
  have At1 : A ≠ t := by simp at At; exact At.1
  have At2 : A ≠ c := by simp at At; exact At.2
  have G6 := G5.same (same_new hA (.lst []))
  refine ⟨_, rfl, t, 2, rfl, by decide, by decide, G6.G.T, fun r2 H7 s0 s1 k7 T7 => ?_⟩
  have e7 : H7 A = some (.lst []) := k7.at1 At1 upd_same
  have k57 : Kp [t, c] H5 H7 := (Kp.new hA).trans k7.tc
  refine ⟨_, _, rfl, rfl, 1 + r2, rfl, by omega, by omega, ?_⟩
  refine for_range (lo := 0) (n := (1 + r2).toNat) (fun i σ H8 => (∃ y7, σ = [some (.ref t), some (.ref c), some (.int m), some (.str nm), some nv, some (.int s), some (.ref A), y7]) ∧ ∃ xs ds l3, Ei K H5 H8 t c A bs rs nm nms (l - s) p last i xs ds l3)
    ⟨⟨_, rfl⟩, [], [], l - s, e7, .nil, by simp, ⟨0, 0, .nil, by omega, by omega⟩, k57, T7, (G6.kp k7 T7).G.Kt, Nat.le_refl _⟩ (fun i σ H8 hi hP => ?_) fun σ H8 hP => ?_
  · obtain ⟨⟨y7, rfl⟩, xs, ds, l3, g8⟩ := hP
    have hi2 : i < 2 := by omega
    obtain ⟨c1, c2, c3⟩ := g8.Kt.ex
    obtain ⟨w8, x8, L8, b8, x8'⟩ := g8.ln
    refine ⟨_, rfl, c, _, rfl, kit_get c1 kit_left, _, _, rfl, rfl, _, rfl, ?_⟩
    refine ite2 (fun h0 => ?_) (fun h0 => ⟨⟨_, rfl⟩, xs, ds, l3, g8.eA, g8.dA, by have := g8.len; omega, ⟨w8, x8, L8, by rw [Nat.mul_add]; omega, x8'⟩, g8.k, g8.T, g8.Kt, g8.hl⟩)
    have h0' : (0 : Int) < (l3 : Int) := of_decide_eq_true h0
    obtain ⟨l4, rfl⟩ : ∃ l4, l3 = l4 + 1 := ⟨l3 - 1, by omega⟩
    refine ⟨_, rfl, c, _, rfl, kit_get c1 kit_left, _, _, rfl, rfl, _, rfl, c, _, rfl, kit_put (l' := l4) (p' := p) (e' := (0 : Nat)) c1 ?_, ?_⟩
    · have z : ((l4 + 1 : Nat) : Int) - 1 = (l4 : Int) := by omega
      dsimp only
      rw [z]; rfl
    obtain ⟨Kt9, k9⟩ := g8.Kt.upd l4 p (0 : Nat)
    have T9 : Tp K (L2.upd H8 c (.dK (kitL bs.1 rs.1 l4 p (0 : Nat) last))) t := g8.T.kp k9 (by simpa using (g8.T.nec g8.Kt).symm)
    have k59 := g8.k.trans k9.c2
    generalize L2.upd H8 c (.dK (kitL bs.1 rs.1 l4 p (0 : Nat) last)) = H9 at *
    have eA9 : H9 A = some (.lst xs) := k9.at1 At2 g8.eA
    -- the inner ground, at any later heap
    have gn : ∀ (H' : Hp) (u : Addr), Kp [t] H9 H' → Tp K H' t → H' u = none → Gn K (L2.upd H' u (.tup [.str nm])) t c (.ref u) bs rs [nm] nms l4 p 0 last := fun H' u kk TT hu =>
      ⟨⟨TT.same (same_new hu _), (Kt9.kp T9 kk).kp TT (.new hu), G.G.hb, by simp, .made hu (.cons .str .nil)⟩, G.hrs, G.hr, Nat.zero_le 1, fun z => absurd z (by decide)⟩
    have fin : ∀ (v : V) (d : D) (H' : Hp) (l5 w1 x1 : Nat), Kp [t, c] H9 H' → Tp K H' t → Kit H' c bs rs l5 p (0 : Nat) last → l5 ≤ l4 → Lns nms [nm] 2 w1 x1 [d] → 16 * w1 ≤ Bl last → x1 ≤ 1 + (l4 - l5) → Dat H' v d →
        H' A = some (.lst xs) ∧ xs.length < sizeLine ∧ Ei K H5 (L2.upd H' A (.lst (xs ++ [v]))) t c A bs rs nm nms (l - s) p last (i + 1) (xs ++ [v]) (ds ++ [d]) l5 := fun v d H' l5 w1 x1 kk TT KK hl5 L5 b5 y5 dv => by
      have eA' : H' A = some (.lst xs) := kk.all _ _ At eA9
      have hlen := g8.len
      have hl8 := g8.hl
      refine ⟨eA', ?_, upd_same, (((k9.c2.trans kk).dats g8.dA).snoc dv).lst eA' _, by simp; omega, ⟨w8 + w1, x8 + x1, L8.app L5, ?_, by omega⟩, (k59.trans kk).putN hA, TT.lst eA' _ At1, KK.put (G5.G.Kt.off hA) _, by omega⟩
      · rw [g8.dA.len]; exact small1000 (by omega)
      · rw [Nat.mul_add, Nat.mul_add]; omega
    refine ⟨fun b H' => (b = true → last ≠ none) ∧ Kp [t] H9 H' ∧ Tp K H' t, ?_, ?_⟩
    · obtain ⟨c1, c2, c3⟩ := Kt9.ex
      refine ⟨_, rfl, c, _, rfl, kit_get c1 kit_last, rfl, _, rfl, ?_⟩
      refine ite2 (fun z1 => ?_) (fun z1 => ⟨(fun z => nomatch z), .refl, T9⟩)
      have hla : last ≠ none := fun z => by subst z; cases z1
      refine ⟨_, rfl, t, 2, rfl, by decide, by decide, T9, fun r3 Ha s0 s1 ka Ta => ?_⟩
      exact ⟨rfl, _, rfl, fun _ => hla, ka, Ta⟩
    rintro b Ha ⟨hla, ka, Ta⟩
    have eAa : Ha A = some (.lst xs) := ka.at1 At1 eA9
    refine ite2 (fun z1 => ?_) (fun z1 => ?_)
    · obtain ⟨la, rfl⟩ : ∃ la, last = some la := by
        cases last with
        | none => exact absurd rfl (hla z1)
        | some x => exact ⟨x, rfl⟩
      refine ⟨_, rfl, .inl ⟨rfl, _, .of eAa⟩, _, rfl, _, rfl, _, rfl, szb, fun u hu => ?_⟩
      have Gb := gn Ha u ka Ta hu
      obtain ⟨c1, c2, c3⟩ := Gb.G.Kt.ex
      refine ⟨_, rfl, c, _, rfl, kit_get c1 kit_last, t, c, _, bs, rs, [nm], l4, p, (0 : Nat), some la, la, rfl, Gb.G, fun v kd gs Hb hk hg hgl dv kb Tb => ?_⟩
      obtain ⟨f1, f2, f3⟩ := fin v _ Hb l4 1 1 (ka.tc.trans ((Kp.new hu).trans kb.tc)) Tb (Gb.kp kb Tb).G.Kt (Nat.le_refl _) (Lns.part (G.hl (by decide) la rfl) hk hg hgl .nil) (by show 16 ≤ 16; decide) (by omega) dv
      exact ⟨A, xs, v, rfl, rfl, f1, f2, ⟨_, rfl⟩, _, _, _, f3⟩
    · refine ⟨_, rfl, .inl ⟨rfl, _, .of eAa⟩, _, rfl, _, rfl, _, rfl, szb, fun u hu => ?_⟩
      have Gb := gn Ha u ka Ta hu
      refine ⟨t, c, _, bs, rs, [nm], nms, l4, p, 0, last, 1, rfl, by omega, Gb, fun v d Hb l5 p5 e5 g dv => ?_⟩
      obtain rfl : p5 = p := g.ht (by simp)
      obtain rfl : e5 = 0 := by have := g.he; omega
      obtain ⟨w1, x1, L1, a1, b1⟩ := g.ln
      obtain ⟨f1, f2, f3⟩ := fin v d Hb l5 w1 x1 (ka.tc.trans ((Kp.new hu).trans g.k)) g.T g.Kt g.hl L1 (by omega) (by have : mm 0 = 1 := rfl; rw [this] at b1; omega) dv
      exact ⟨A, xs, v, rfl, rfl, f1, f2, ⟨_, rfl⟩, _, _, _, f3⟩
  · obtain ⟨⟨y7, rfl⟩, xs, ds, l3, g8⟩ := hP
    obtain ⟨c1, c2, c3⟩ := g8.Kt.ex
    obtain ⟨w8, x8, L8, b8, x8'⟩ := g8.ln
    have hl8 := g8.hl
    refine ⟨_, rfl, c, _, rfl, kit_get c1 kit_left, _, rfl, _, _, rfl, rfl, _, rfl, c, _, rfl, kit_put (l' := (l3 + s : Nat)) (p' := p) (e' := (0 : Nat)) c1 ?_, ?_⟩
    · have z : ((l3 : Int) + (s : Int)) = ((l3 + s : Nat) : Int) := by omega
      dsimp only
      rw [z]; rfl
    obtain ⟨Kt9, k9⟩ := g8.Kt.upd (l3 + s : Nat) p (0 : Nat)
    have T9 : Tp K (L2.upd H8 c (.dK (kitL bs.1 rs.1 (l3 + s : Nat) p (0 : Nat) last))) t := g8.T.kp k9 (by simpa using (g8.T.nec g8.Kt).symm)
    have k59 := g8.k.trans k9.c2
    generalize L2.upd H8 c (.dK (kitL bs.1 rs.1 (l3 + s : Nat) p (0 : Nat) last)) = H9 at *
    have eA9 : H9 A = some (.lst xs) := k9.at1 At2 g8.eA
    have dA9 : Dats H9 xs ds := k9.dats g8.dA
    refine ⟨_, rfl, _, rfl, _, rfl, A, xs, rfl, .inl ⟨.of eA9, fun x hx => ⟨szb, fun u hu => ?_⟩⟩⟩
    have k9' : Kp [t, c] H9 (L2.upd (L2.upd H9 x (.tup xs)) u (.tup [.str "each", .str nm, nv, .ref x])) := (Kp.new hx).trans (.new hu)
    refine q _ (.tup [.str "each", .str nm, nd, .tup ds]) _ (l3 + s) p 0 ⟨⟨8 * w8 + 0, 8 * x8 + 0, (Lns.each (hnr.up (by decide)) L8 .nil).up (by omega), ?_, ?_⟩, ?_, (T9.same (same_new hx _)).same (same_new hu _), (Kt9.kp T9 (.new hx)).kp (T9.same (same_new hx _)) (.new hu), by omega, by omega, by omega, fun _ => rfl⟩ ?_
    · have h2 : Bl last * (1 + r2).toNat ≤ Bl last * 2 := Nat.mul_le_mul_left _ (by omega)
      omega
    · have : mm 1 = 8 := rfl
      rw [this]
      omega
    · exact k04.trans (k5.c2.trans (k59.trans k9'))
    · refine .made hu (.cons .str (.cons .str (.cons ?_ (.cons ?_ .nil))))
      · exact (Kp.new (ms := [t, c]) hx).dat (k59.dat (k5.dat dn))
      · exact .made hx dA9
end
end Vw

set_option maxHeartbeats 4000000
/-! the lines closed; parts, the house, the tape -/
namespace Vw
open PySem PySem.Spec PyProof.Rows L2
open C8 (pss_cut tCut)

/-- a def of the text as the head tells of it -/
structure Gf (K : PySem.W.Frag) (mg : Str → Option Value) (x : Str) (i : Nat) (ps : List Str) : Prop where
  ex : ∃ f fd, Fun K x x (Vh.top i) f fd ∧ mg x = some (.ref f) ∧ Binds K fd ps []
theorem Gf.cl {P : Program} {w : World} {K : PySem.W.Frag} {mg : Str → Option Value} {base : Heap} {k i : Nat} {x : Str} {ps : List Str} {sp : Sp} (g : Gf K mg x i ps) (h : ∀ f fd, Fun K x x (Vh.top i) f fd → FnOk P w K mg base CX0 k f fd ps sp) : Cl P w K mg base k x sp := by
  obtain ⟨f, fd, F, hm, b⟩ := g.ex
  exact ⟨f, fd, ps, h f fd F, hm, F.kp, b⟩

theorem cut_from (xs : List V) (i : Nat) (h : i ≤ xs.length) : cutV xs (some (i : Int)) none = xs.drop i := by
  unfold cutV HT.sIx
  rw [List.take_of_length_le]
  · congr 1
    simp only
    first | omega | (split <;> omega)
  · rw [List.length_drop]
    simp only
    first | omega | (split <;> omega)

/-- a name and a small number -/
def PrI (d : D) : Prop := ∃ x i, d = .tup [.str x, .int i] ∧ Sm i
/-- the part at place i of the house -/
def PartOk (names : List Str) (i : Nat) (d : D) : Prop := ∃ (nm : Str) (first works lines : List D) (w c : Nat), names[i]? = some nm ∧ d = .tup [.str nm, .tup first, .tup works, .tup lines] ∧ (∀ x ∈ first, PrI x) ∧ first.length ≤ 12 ∧ (∀ x ∈ works, PrOk [] x) ∧ works.length ≤ 12 ∧
  Lns (names.drop (i + 1)) [] 7 w c lines ∧ lines.length ≤ 100 ∧ w ≤ (if i = 0 then 18 else 2) ∧ c ≤ 48
structure HouseOk (names : List Str) (hs : List D) : Prop where
  len : hs.length = names.length
  pos : 0 < names.length
  six : names.length ≤ 6
  nd : names.Nodup
  pt : ∀ i d, hs[i]? = some d → PartOk names i d

theorem kit_put2 {H : Hp} {c bl rl : Addr} {l p e l' p' e' : Int} {last last' : Option Str} {x : Str} {v : V} (h : H c = some (.dK (kitL bl rl l p e last))) (hv : putK (kitL bl rl l p e last) (.inr x) v = kitL bl rl l' p' e' last') :
    DPut H c (.str x) v (upd H c (.dK (kitL bl rl l' p' e' last'))) := by
  rw [← hv]
  exact DPut.k (k := Sum.inr x) h (by show 6 < sizeLine; decide)
theorem Kit.upd2 {H : Hp} {c : Addr} {bs rs : Addr × List Str} {l p e : Int} {last : Option Str} (h : Kit H c bs rs l p e last) (l' p' e' : Int) (last' : Option Str) :
    Kit (L2.upd H c (.dK (kitL bs.1 rs.1 l' p' e' last'))) c bs rs l' p' e' last' ∧ Kp [c] H (L2.upd H c (.dK (kitL bs.1 rs.1 l' p' e' last'))) := by
  obtain ⟨e1, e2, e3⟩ := h.ex
  refine ⟨⟨⟨upd_same, ?_, ?_⟩, h.bp⟩, .put (by simp) e1 (fun _ z => nomatch z) fun _ _ z => nomatch z⟩
  · rw [upd_ne (ne_of e2 e1 (fun z => nomatch z))]; exact e2
  · rw [upd_ne (ne_of e3 e1 (fun z => nomatch z))]; exact e3

section
variable {P : Program} {w : World} {K : PySem.W.Frag} {mg : Str → Option Value} {base : Heap} {f : Addr} {fd : FuncData} {k : Nat}
/-- the kit while a part is begun -/
structure Pk (K : PySem.W.Frag) (H H' : Hp) (t c : Addr) (bs rs : Addr × List Str) (p e : Nat) (last : Option Str) : Prop where
  k : Kp [t, c] H H'
  T : Tp K H' t
  Kt : Kit H' c bs rs 6 p e last
theorem Pk.put {H H' : Hp} {t c : Addr} {bs rs : Addr × List Str} {p e : Nat} {last : Option Str} (g : Pk K H H' t c bs rs p e last) (p' e' : Nat) (last' : Option Str) : Pk K H (upd H' c (.dK (kitL bs.1 rs.1 6 p' e' last'))) t c bs rs p' e' last' := by
  obtain ⟨Kt, k⟩ := g.Kt.upd2 6 p' e' last'
  exact ⟨g.k.trans k.c2, g.T.kp k (by simpa using (g.T.nec g.Kt).symm), Kt⟩
def spPart (K : PySem.W.Frag) : Sp := fun vs H Q _ => ∃ (t n : Addr) (names : List Str) (i : Nat) (kd : Bool), vs = [.ref t, .ref n, .int i, .bl kd] ∧ Tp K H t ∧ H n = some (.lst (names.map V.str)) ∧ i < names.length ∧ names.length ≤ 12 ∧
  ∀ v d H', PartOk names i d → Dat H' v d → Kp [t] H H' → Tp K H' t → Q v H'
theorem sc_law_part : FnScope ["_law_tape_here", "_law_names_here", "_law_k", "_law_keyed", "_law_many", "_law_boxes_here", "_law_kit", "_law_first", "_law_lines_here", "_law_work_names", "_law_works", "_law_box", "_law_name"] ["_law_tape_here", "_law_names_here", "_law_k", "_law_keyed"] (defScope (Vh.top 18)) := ⟨rfl, rfl, rfl, by decide +kernel, rfl, by decide +kernel, by decide +kernel⟩
theorem ok_part (F : Fun K "_law_part" "_law_part" (Vh.top 18) f fd) (B : Blt mg) (C_law_draw : Cl P w K mg base k "_law_draw" (spDraw K)) (C_law_names : Cl P w K mg base k "_law_names" (spNames K)) (C_law_number : Cl P w K mg base k "_law_number" (spNumber K))
    (C_law_sum : Cl P w K mg base k "_law_sum" (spSum K 3)) (C_law_lines : Cl P w K mg base k "_law_lines" (spLines K 23)) :
    FnOk P w K mg base CX0 (k + 1) f fd ["_law_tape_here", "_law_names_here", "_law_k", "_law_keyed"] (spPart K) := by
  refine F.ok sc_law_part (fun vs H Q E h => ?_) (fun cdv A outer s H vs Q E hr h => ?_)
  · obtain ⟨t, n, _, _, _, rfl, _⟩ := h
    rfl
  obtain ⟨t, n, names, i, kd, rfl, hT, hn, hi, h12, q⟩ := h
  refine ⟨_, (pss_cons (ps_set (i := 4) sc_law_part.nd rfl (Or.inl rfl) (pe_ix ix_list (pe_lst (pa_cons pe_int (pa_cons pe_int (pa_cons pe_int (pa_cons pe_int (pa_cons pe_int (pa_cons pe_int pa_nil))))))) (pe_cl C_law_draw hr (by rfl) (pa_cons (pv 0) (pa_cons pe_int pa_nil))) (fun _ _ => rfl)))
  (pss_cons (ps_set (i := 5) sc_law_part.nd rfl (Or.inl rfl) (pe_cl C_law_names hr (by rfl) (pa_cons (pv 0) (pa_cons (pv 4) pa_nil))))
  (pss_cons (ps_set (i := 6) sc_law_part.nd rfl (Or.inr rfl) (pe_disp (pps_cons pe_str (pv 5) (pps_cons pe_str (pe_slice sl_list (pv 1) (po_some (pe_op op_add (pv 2) pe_int)) po_none) (pps_cons pe_str pe_int (pps_cons pe_str pe_int (pps_cons pe_str pe_int (pps_cons pe_str pe_non pps_nil)))))) (by rfl) (by rfl) (fun z => by cases z) (by decide)))
  (pss_cut (ps_if (PW.pt (pw_or (pt_cmpR op_lt (pe_callB call_len_seq (by rfl) B.len_ (by decide +kernel) (pa_cons (pv 1) pa_nil)) pe_int (nomark _)) (pw_or1 (PW.pt (pw_and (pt_val (pv 3)) (pw_and1 (pt_cmpR op_eq (pv 2) pe_int (nomark _)))))))) (pss_one (ps_dput (hu_of hr) (pv 6) pe_str pe_int rfl)) pss_nil)
  (pss_cut (ps_if (pt_val (pv 3)) (pss_cons (ps_dput (hu_of hr) (pv 6) pe_str (pe_callTy call_int1 (by rfl) B.int_ (by decide +kernel) (pa_cons (pe_cmpR op_eq (pv 2) pe_int (nomark _)) pa_nil)) rfl)
  (pss_cut (ps_if (pt_cmpR op_gt (pe_callB call_len_seq (by rfl) B.len_ (by decide +kernel) (pa_cons (pv 1) pa_nil)) pe_int (nomark _)) (pss_one (ps_dput (hu_of hr) (pv 6) pe_str (pe_ix ix_list (pv 1) (pe_un un_neg pe_int) (fun _ _ => rfl)) rfl)) pss_nil)
  (pss_one (ps_if (pt_cmpR op_gt (pv 2) pe_int (nomark _)) (pss_one (ps_dput (hu_of hr) (pv 6) pe_str pe_int rfl)) pss_nil)))) pss_nil)
  (pss_cons (ps_set (i := 7) sc_law_part.nd rfl (Or.inl rfl) (pe_callTy call_tuple_of (by rfl) B.tuple_ (by decide +kernel) (pa_cons (pe_lc (own := [("_law_box", 11)]) (g := (gName 11)) (by rfl) sc_law_part.nd (pi_list (pv 5)) (blkOk_by (own := [("_law_box", 11)]) (N := ["_law_tape_here", "_law_names_here", "_law_k", "_law_keyed", "_law_many", "_law_boxes_here", "_law_kit", "_law_first", "_law_lines_here", "_law_work_names", "_law_works", "_law_box", "_law_name"]) (sc := defScope (Vh.top 18)) (by decide +kernel)) (fun _ _ _ _ _ => (pg_name (i := 11) sc_law_part.nd rfl (.inl rfl))) (fun _ _ _ _ _ => pts_nil) (fun _ _ _ _ _ => (pe_tup (pa_cons (pv 11) (pa_cons (pe_cl C_law_number hr (by rfl) (pa_cons (pv 0) pa_nil)) pa_nil))))) pa_nil)))
  (pss_cons (ps_set (i := 8) sc_law_part.nd rfl (Or.inl rfl) (pe_cl C_law_lines hr (by rfl) (pa_cons (pv 0) (pa_cons (pv 6) (pa_cons (pe_tup pa_nil) (pa_cons (pe_ix ix_list (pe_lst (pa_cons pe_int (pa_cons pe_int pa_nil))) (pe_callTy call_int1 (by rfl) B.int_ (by decide +kernel) (pa_cons (pe_cmpR op_gt (pe_callB call_len_seq (by rfl) B.len_ (by decide +kernel) (pa_cons (pv 1) pa_nil)) pe_int (nomark _)) pa_nil)) (fun _ _ => rfl)) pa_nil))))))
  (pss_cons (ps_set (i := 9) sc_law_part.nd rfl (Or.inl rfl) (pe_cl C_law_names hr (by rfl) (pa_cons (pv 0) (pa_cons (pe_cl C_law_draw hr (by rfl) (pa_cons (pv 0) (pa_cons pe_int pa_nil))) pa_nil))))
  (pss_cons (ps_set (i := 10) sc_law_part.nd rfl (Or.inl rfl) (pe_callTy call_tuple_of (by rfl) B.tuple_ (by decide +kernel) (pa_cons (pe_lc (own := [("_law_name", 12)]) (g := (gName 12)) (by rfl) sc_law_part.nd (pi_list (pv 9)) (blkOk_by (own := [("_law_name", 12)]) (N := ["_law_tape_here", "_law_names_here", "_law_k", "_law_keyed", "_law_many", "_law_boxes_here", "_law_kit", "_law_first", "_law_lines_here", "_law_work_names", "_law_works", "_law_box", "_law_name"]) (sc := defScope (Vh.top 18)) (by decide +kernel)) (fun _ _ _ _ _ => (pg_name (i := 12) sc_law_part.nd rfl (.inl rfl))) (fun _ _ _ _ _ => pts_nil) (fun _ _ _ _ _ => (pe_tup (pa_cons (pv 12) (pa_cons (pe_cl C_law_sum hr (by rfl) (pa_cons (pv 0) (pa_cons (pv 6) (pa_cons (pe_tup pa_nil) (pa_cons pe_int pa_nil))))) pa_nil))))) pa_nil)))
  (pss_one (ps_ret (pe_tup (pa_cons (pe_ix ix_list (pv 1) (pv 2) (fun _ _ => rfl)) (pa_cons (pv 7) (pa_cons (pv 10) (pa_cons (pv 8) pa_nil)))))))))))))))), ?_⟩
  refine ⟨szb, fun l0 hl0 => ?_⟩
  refine ⟨_, rfl, t, 6, rfl, by decide, by decide, hT.same (same_new hl0 _), fun a H1 a0 a1 k1 T1 => ?_⟩
  obtain ⟨mn, hmn, hx⟩ : ∃ mn : Nat, mn ≤ 4 ∧ atI [V.int 0, .int 1, .int 1, .int 2, .int 2, .int 4] a = some (.int mn) := by
    have : a = 0 ∨ a = 1 ∨ a = 2 ∨ a = 3 ∨ a = 4 ∨ a = 5 := by omega
    rcases this with rfl | rfl | rfl | rfl | rfl | rfl
    · exact ⟨0, by decide, rfl⟩
    · exact ⟨1, by decide, rfl⟩
    · exact ⟨1, by decide, rfl⟩
    · exact ⟨2, by decide, rfl⟩
    · exact ⟨2, by decide, rfl⟩
    · exact ⟨4, by decide, rfl⟩
  refine ⟨l0, _, _, _, rfl, rfl, .of (k1.at1 (hT.new hl0) upd_same), hx, ?_⟩
  refine ⟨_, rfl, _, rfl, t, mn, rfl, by omega, T1, fun bl bxs H2 hbx hbn k2 T2 hbl e2 => ?_⟩
  have k02 : Kp [t] H H2 := (Kp.new hl0).trans (k1.trans k2)
  have n2 : H2 n = some (.lst (names.map V.str)) := k02.at1 (hT.nes hn) hn
  -- the kit
  refine fun c hc => ?_
  have s3 : Same H2 (upd H2 c (.dK [])) := same_new hc _
  refine ⟨_, rfl, _, rfl, _, rfl, _, _, rfl, rfl, _, rfl, n, _, rfl, .of (s3 _ _ n2), fun rl hrl => ?_⟩
  have ecut : cutV (names.map V.str) (some ((i : Int) + 1)) none = (names.drop (i + 1)).map V.str := by
    have := cut_from (names.map V.str) (i + 1) (by rw [List.length_map]; omega)
    rw [List.map_drop, ← this]
    rfl
  rw [ecut]
  have cr : c ≠ rl := ne_of_none (upd_same) hrl
  have k24 : Kp [t] H2 (upd (upd H2 c (.dK [])) rl (.lst ((names.drop (i + 1)).map V.str))) := (Kp.new hc).trans (.new hrl)
  refine ⟨by rw [upd_ne cr]; exact upd_same, kitL bl rl 6 1 1 none, rfl, by show 6 ≤ 15; decide, ?_⟩
  have P4 : Pk K H2 (upd (upd (upd H2 c (.dK [])) rl (.lst ((names.drop (i + 1)).map V.str))) c (.dK (mergeK [] (kitL bl rl 6 1 1 none)))) t c (bl, bxs) (rl, names.drop (i + 1)) 1 1 none := by
    refine ⟨(k24.putN hc).tc, ?_, ⟨⟨upd_same, ?_, ?_⟩, hbn.2⟩⟩
    · exact ((T2.same s3).same (same_new hrl _)).kp (Kp.put (ms := [c]) (u := .dK []) (by simp) (by rw [upd_ne cr]; exact upd_same) (fun _ z => nomatch z) (fun _ _ z => nomatch z)) (by simpa using (T2.new hc).symm)
    · rw [upd_ne (ne_of_none e2 hc), upd_ne (ne_of_none (s3 _ _ e2) hrl)]; exact s3 _ _ e2
    · rw [upd_ne (Ne.symm cr)]; exact upd_same
  generalize upd (upd (upd H2 c (.dK [])) rl (.lst ((names.drop (i + 1)).map V.str))) c (.dK (mergeK [] (kitL bl rl 6 1 1 none))) = H4 at *
  clear k24 s3
  have nt : n ∉ [t, c] := by
    have h1 := T2.nes n2
    have h2 := ne_of_none n2 hc
    simp [h1, h2]
  have nn : ∀ H', Kp [t, c] H2 H' → H' n = some (.lst (names.map V.str)) := fun H' kk => kk.all _ _ nt n2
  -- how many parts
  refine ⟨fun σ' H' => σ' = [some (.ref t), some (.ref n), some (.int i), some (.bl kd), some (.int mn), some (.ref bl), some (.ref c), none, none, none, none, none, none] ∧ ∃ p : Nat, p ≤ 2 ∧ Pk K H2 H' t c (bl, bxs) (rl, names.drop (i + 1)) p 1 none, ?_, ?_⟩
  · obtain ⟨c1, c2, c3⟩ := P4.Kt.ex
    have no : ∃ p : Nat, p ≤ 2 ∧ Pk K H2 H4 t c (bl, bxs) (rl, names.drop (i + 1)) p 1 none := ⟨1, by decide, P4⟩
    refine ⟨_, rfl, n, _, rfl, .inl (.of (nn _ P4.k)), _, _, rfl, rfl, _, rfl, ?_⟩
    refine ite2 (fun z1 => ?_) (fun z1 => ?_)
    · exact ⟨_, rfl, c, _, rfl, kit_put2 (l' := 6) (p' := (2 : Nat)) (e' := (1 : Nat)) (last' := none) c1 (by rfl), rfl, 2, by decide, P4.put 2 1 none⟩
    · refine ⟨_, rfl, _, rfl, ?_⟩
      refine ite2 (fun z2 => ?_) (fun z2 => iteF ⟨rfl, no⟩)
      refine ⟨_, rfl, rfl, _, rfl, ?_⟩
      refine ite2 (fun z3 => ?_) (fun z3 => ⟨rfl, no⟩)
      exact ⟨_, rfl, c, _, rfl, kit_put2 (l' := 6) (p' := (2 : Nat)) (e' := (1 : Nat)) (last' := none) c1 (by rfl), rfl, 2, by decide, P4.put 2 1 none⟩
  rintro _ H5 ⟨rfl, p5, hp5, P5⟩
  clear P4
  refine ⟨fun σ' H' => σ' = [some (.ref t), some (.ref n), some (.int i), some (.bl kd), some (.int mn), some (.ref bl), some (.ref c), none, none, none, none, none, none] ∧ ∃ (p e : Nat) (last : Option Str), e ≤ 1 ∧ p + Bl last * e ≤ (if i = 0 then 18 else 2) ∧
    (0 < e → ∀ nm, last = some nm → nm ∈ names.drop (i + 1)) ∧ Pk K H2 H' t c (bl, bxs) (rl, names.drop (i + 1)) p e last, ?_, ?_⟩
  · obtain ⟨c1, c2, c3⟩ := P5.Kt.ex
    refine ⟨_, rfl, _, rfl, ?_⟩
    refine ite2 (fun z1 => ?_) (fun z1 => ⟨rfl, p5, 1, none, Nat.le_refl _, by show p5 + 0 ≤ _; split <;> omega, (fun _ nm z => nomatch z), P5⟩)
    obtain ⟨e6, he6, eq6⟩ : ∃ e6 : Nat, e6 = (if i = 0 then 1 else 0) ∧ (if decide (V.int (i : Int) = V.int 0) = true then (1 : Int) else 0) = (e6 : Int) := by
      by_cases h : i = 0
      · subst h; exact ⟨1, rfl, rfl⟩
      · refine ⟨0, by rw [if_neg h], ?_⟩
        rw [if_neg]
        · rfl
        · intro z
          have := of_decide_eq_true z
          simp at this
          omega
    refine ⟨_, rfl, rfl, .inr ⟨_, rfl, ?_⟩⟩
    rw [eq6]
    refine ⟨_, rfl, c, _, rfl, kit_put2 (l' := 6) (p' := p5) (e' := e6) (last' := none) c1 (by rfl), ?_⟩
    have P6 := P5.put p5 e6 none
    generalize upd H5 c (.dK (kitL bl rl 6 p5 e6 none)) = H6 at *
    refine ⟨fun σ' H' => σ' = [some (.ref t), some (.ref n), some (.int i), some (.bl kd), some (.int mn), some (.ref bl), some (.ref c), none, none, none, none, none, none] ∧ ∃ (last : Option Str), 
      (0 < e6 → ∀ nm, last = some nm → nm ∈ names.drop (i + 1)) ∧ Pk K H2 H' t c (bl, bxs) (rl, names.drop (i + 1)) p5 e6 last, ?_, ?_⟩
    · refine ⟨_, rfl, n, _, rfl, .inl (.of (nn _ P6.k)), _, _, rfl, rfl, _, rfl, ?_⟩
      refine ite2 (fun z2 => ?_) (fun z2 => ⟨rfl, none, (fun _ nm z => nomatch z), P6⟩)
      have z2' : (1 : Int) < ((names.map V.str).length : Nat) := of_decide_eq_true z2
      rw [List.length_map] at z2'
      have hj : names.length - 1 < names.length := by omega
      have hx : atI (names.map V.str) (-1) = some (.str names[names.length - 1]) := by
        unfold atI ixN
        rw [if_neg (by decide), if_pos (by rw [List.length_map]; omega)]
        show (names.map V.str)[((-1 : Int) + ((names.map V.str).length : Nat)).toNat]? = _
        rw [show ((-1 : Int) + ((names.map V.str).length : Nat)).toNat = names.length - 1 by rw [List.length_map]; omega, List.getElem?_map, List.getElem?_eq_getElem hj]
        rfl
      obtain ⟨c1, c2, c3⟩ := P6.Kt.ex
      refine ⟨_, rfl, _, rfl, n, _, _, _, rfl, rfl, .of (nn _ P6.k), hx, ?_⟩
      refine ⟨_, rfl, c, _, rfl, kit_put2 (l' := 6) (p' := p5) (e' := e6) (last' := some names[names.length - 1]) c1 (by rfl), rfl, _, fun z nm znm => ?_, P6.put p5 e6 _⟩
      cases znm
      have hi0 : i = 0 := by
        by_cases h : i = 0
        · exact h
        · rw [he6, if_neg h] at z; omega
      subst hi0
      refine List.mem_of_getElem? (i := names.length - 2) ?_
      rw [List.getElem?_drop, List.getElem?_eq_getElem (by omega)]
      congr 2
      omega
    · rintro _ H7 ⟨rfl, last, hl7, P7⟩
      obtain ⟨c1, c2, c3⟩ := P7.Kt.ex
      refine ⟨_, rfl, _, _, rfl, rfl, _, rfl, ?_⟩
      refine ite2 (fun z2 => ?_) (fun z2 => ?_)
      · have z2' : (0 : Int) < (i : Int) := of_decide_eq_true z2
        refine ⟨_, rfl, c, _, rfl, kit_put2 (l' := 6) (p' := (1 : Nat)) (e' := e6) (last' := last) c1 (by rfl), rfl, 1, e6, last, ?_, ?_, hl7, P7.put 1 e6 last⟩
        · rw [he6]; split <;> omega
        · rw [he6, if_neg (by omega), if_neg (by omega)]; omega
      · have z2' : ¬ (0 : Int) < (i : Int) := of_decide_eq_false (Bool.eq_false_iff.mpr z2)
        refine ⟨rfl, p5, e6, last, by rw [he6]; split <;> omega, ?_, hl7, P7⟩
        rw [he6, if_pos (by omega), if_pos (by omega)]
        cases last
        · show p5 + 0 * 1 ≤ 18; omega
        · show p5 + 16 * 1 ≤ 18; omega
  rintro _ H6 ⟨rfl, p6, e6, last, he6, hw6, hl6, P6⟩
  clear P5
  obtain ⟨c1, c2, c3⟩ := P6.Kt.ex
  -- first numbers
  refine ⟨_, rfl, bl, rfl, ⟨_, .of c2⟩, fun A hA => ?_⟩
  refine lc_list (K := K) (a := bl) (xs := bxs.map V.str) (GI K t H6 A PrI) (.start hA P6.T) (fun j H7 _ g => .of (g.1.at1 (P6.T.nes c2) c2)) (fun j x H7 hx g => ?_) fun H7 g => ?_
  · obtain ⟨y, _, rfl⟩ := List.mem_map.mp (List.mem_of_getElem? hx)
    have hj : j < 1000000 := by
      have := (List.getElem?_eq_some_iff.mp hx).1
      rw [List.length_map, hbx] at this
      omega
    refine ⟨rfl, ?_⟩
    refine ⟨_, rfl, _, rfl, t, rfl, g.2.1, fun z H8 hz k8 T8 => ?_⟩
    refine ⟨szb, fun u hu => ?_⟩
    exact g.push hA P6.T hj (k8.trans (.new hu)) (T8.same (same_new hu _)) (.made hu (.cons .str (.cons .int .nil))) ⟨y, z, rfl, hz⟩
  obtain ⟨k7, T7, ys, ds, e7, d7, hl7, r7⟩ := g
  rw [List.length_map, hbx] at hl7
  refine ⟨A, ys, rfl, .inl ⟨.of e7, fun fv hfv => ?_⟩⟩
  have P8 : Pk K H2 (upd H7 fv (.tup ys)) t c (bl, bxs) (rl, names.drop (i + 1)) p6 e6 last := ⟨P6.k.trans (k7.tc.trans (.new hfv)), T7.same (same_new hfv _), (P6.Kt.kp P6.T k7).kp T7 (.new hfv)⟩
  have dfv : Dat (upd H7 fv (.tup ys)) (.ref fv) (.tup ds) := .made hfv d7
  generalize upd H7 fv (.tup ys) = H8 at *
  -- lines
  refine ⟨_, rfl, _, rfl, szb, fun u hu => ?_⟩
  refine ⟨szb, fun l2 hl2 => ?_⟩
  have s8 : Same H8 (upd (upd H8 u (.tup [])) l2 (.lst [.int 3, .int 1])) := (same_new hu _).trans (same_new hl2 _)
  have el2 : (upd (upd H8 u (.tup [])) l2 (.lst [.int 3, .int 1])) l2 = some (.lst [.int 3, .int 1]) := upd_same
  have du : Dat (upd (upd H8 u (.tup [])) l2 (.lst [.int 3, .int 1])) (.ref u) (.tup []) := Same.dat (same_new hl2 _) (.made hu .nil)
  have P9 : Pk K H2 (upd (upd H8 u (.tup [])) l2 (.lst [.int 3, .int 1])) t c (bl, bxs) (rl, names.drop (i + 1)) p6 e6 last := ⟨P8.k.trans (.same s8), P8.T.same s8, P8.Kt.kp P8.T (.same s8)⟩
  generalize upd (upd H8 u (.tup [])) l2 (.lst [.int 3, .int 1]) = H9 at *
  obtain ⟨m, hm, hx⟩ : ∃ m : Nat, m ≤ 3 ∧ atI [V.int 3, .int 1] (if decide ((3 : Int) < ((names.map V.str).length : Nat)) = true then 1 else 0) = some (.int m) := by
    split
    · exact ⟨1, by decide, rfl⟩
    · exact ⟨3, by decide, rfl⟩
  refine ⟨_, rfl, n, _, rfl, .inl (.of (nn _ P9.k)), _, _, rfl, rfl, .inr ⟨_, rfl, l2, _, _, _, rfl, rfl, .of el2, hx, ?_⟩⟩
  have G9 : Gn K H9 t c (.ref u) (bl, bxs) (rl, names.drop (i + 1)) [] (names.drop (i + 1)) 6 p6 e6 last :=
    ⟨⟨P9.T, P9.Kt, by show bxs.length ≤ 100; omega, by simp, du⟩, by show (names.drop (i + 1)).length ≤ 100; rw [List.length_drop]; omega, fun r hr => hr, he6, hl6⟩
  refine ⟨t, c, _, _, _, [], _, 6, p6, e6, last, m, rfl, by omega, G9, fun lv lines Ha l' p' e' ga hla da => ?_⟩
  -- works
  refine ⟨_, rfl, _, rfl, t, 3, rfl, by decide, by decide, ga.T, fun r Hb r0 r1 kb Tb => ?_⟩
  refine ⟨t, r.toNat, ?_, by omega, Tb, fun wn wxs Hc hws hwn kc Tc hwn0 ec => ?_⟩
  · rw [show ((r.toNat : Nat) : Int) = r by omega]; rfl
  have Kc := (ga.Kt.kp ga.T kb).kp Tb kc
  refine ⟨_, rfl, wn, rfl, ⟨_, .of ec⟩, fun A2 hA2 => ?_⟩
  refine lc_list (K := K) (a := wn) (xs := wxs.map V.str) (GI K t Hc A2 (PrOk [])) (.start hA2 Tc) (fun j H7 _ g => .of (g.1.at1 (Tc.nes ec) ec)) (fun j x Hd hx g => ?_) fun Hd g => ?_
  · obtain ⟨y, _, rfl⟩ := List.mem_map.mp (List.mem_of_getElem? hx)
    have hj : j < 1000000 := by
      have := (List.getElem?_eq_some_iff.mp hx).1
      rw [List.length_map, hws] at this
      omega
    refine ⟨rfl, ?_⟩
    refine ⟨_, rfl, _, rfl, _, rfl, szb, fun u2 hu2 => ?_⟩
    refine ⟨t, c, _, (bl, bxs), (rl, names.drop (i + 1)), [], l', p', e', last, 1, rfl, by decide, ⟨g.2.1.same (same_new hu2 _), (Kc.kp Tc g.1).kp g.2.1 (.new hu2), by show bxs.length ≤ 100; omega, by simp, .made hu2 .nil⟩, fun v d H4' hr hv k4' T4' => ?_⟩
    refine ⟨szb, fun u3 hu3 => ?_⟩
    exact g.push hA2 Tc hj ((Kp.new hu2).trans (k4'.trans (.new hu3))) (T4'.same (same_new hu3 _)) (.made hu3 (.cons .str (.cons hv .nil))) ⟨y, d, rfl, hr.up (by decide)⟩
  obtain ⟨kd', Td, zs, es, ed, dd, hld, rd⟩ := g
  rw [List.length_map, hws] at hld
  refine ⟨A2, zs, rfl, .inl ⟨.of ed, fun wv hwv => ?_⟩⟩
  have kae : Kp [t] Ha (upd Hd wv (.tup zs)) := kb.trans (kc.trans (kd'.trans (.new hwv)))
  have Te : Tp K (upd Hd wv (.tup zs)) t := Td.same (same_new hwv _)
  have dwv : Dat (upd Hd wv (.tup zs)) (.ref wv) (.tup es) := .made hwv dd
  generalize upd Hd wv (.tup zs) = He at *
  have ke2 : Kp [t, c] H2 He := P9.k.trans (ga.k.trans kae.tc)
  have hat : atI (names.map V.str) (i : Int) = some (.str names[i]) := by
    exact atI_nat (by rw [List.getElem?_map, List.getElem?_eq_getElem hi]; rfl)
  refine ⟨_, rfl, _, rfl, n, _, _, _, rfl, rfl, .of (nn _ ke2), hat, _, rfl, _, rfl, _, rfl, szb, fun u4 hu4 => ?_⟩
  obtain ⟨w1, x1, L1, a1', b1⟩ := ga.ln
  refine q _ (.tup [.str names[i], .tup ds, .tup es, .tup lines]) _ ⟨names[i], ds, es, lines, w1, x1, List.getElem?_eq_getElem hi, rfl, r7, by omega, rd, by omega, L1.up (by omega), hla, by omega, ?_⟩ ?_ ?_ (Te.same (same_new hu4 _))
  · have h1 : mm e6 ≤ 8 := by unfold mm; split <;> omega
    have h2 := Nat.mul_le_mul h1 (show 0 + (6 - l') ≤ 6 by omega)
    omega
  · refine .made hu4 (.cons .str (.cons ?_ (.cons dwv (.cons (kae.dat da) .nil))))
    exact kae.dat (ga.k.dat (Same.dat s8 dfv))
  · exact (k02.tc.trans (ke2.trans (.new hu4))).drop fun b hb => by
      simp at hb
      rcases hb with rfl | rfl
      · exact .inl (by simp)
      · exact .inr (k02.frs _ hc)
end
end Vw

set_option maxHeartbeats 4000000
/-! the house, the tape; the generator closed -/
namespace Vw
open PySem PySem.Spec PyProof.Rows L2
open C8 (pss_cut tCut)

section
variable {P : Program} {w : World} {K : PySem.W.Frag} {mg : Str → Option Value} {base : Heap} {f : Addr} {fd : FuncData} {k : Nat}
def spTape (K : PySem.W.Frag) : Sp := fun vs H Q _ => ∃ (s : Addr) (ns : List Int), vs = [.ref s] ∧ Scr K H s ns ∧ ns.length ≤ 63 ∧ ∀ t H', H t = none → Same H H' → Tp K H' t → Q (.ref t) H'
theorem sc_law_tape : FnScope ["_law_script"] ["_law_script"] (defScope (Vh.top 4)) := ⟨rfl, rfl, rfl, by decide +kernel, rfl, by decide +kernel, by decide +kernel⟩
theorem ok_tape (F : Fun K "_law_tape" "_law_tape" (Vh.top 4) f fd) : FnOk P w K mg base CX0 (k + 1) f fd ["_law_script"] (spTape K) := by
  refine F.ok sc_law_tape (fun vs H Q E h => ?_) (fun cdv A outer s H vs Q E hr h => ?_)
  · obtain ⟨s, ns, rfl, _⟩ := h
    rfl
  obtain ⟨s, ns, rfl, hs, hl, q⟩ := h
  refine ⟨_, (pss_one (ps_ret (pe_lst (pa_cons (pv 0) (pa_cons pe_int (pa_cons pe_int (pa_cons pe_int pa_nil))))))), ?_⟩
  refine ⟨_, rfl, szb, fun t ht => ?_⟩
  exact q t _ ht (same_new ht _) ⟨s, ns, 0, 0, 0, upd_same, hs.kp (Kp.new (ms := []) ht), hl, Int.le_refl _, Int.le_refl _⟩

def spHouse (K : PySem.W.Frag) : Sp := fun vs H Q _ => ∃ (t : Addr), vs = [.ref t] ∧ Tp K H t ∧ ∀ v names hs H', HouseOk names hs → Dat H' v (.tup hs) → Kp [t] H H' → Tp K H' t → Q v H'
theorem sc_law_house : FnScope ["_law_tape_here", "_law_names_here", "_law_keyed", "_law_k"] ["_law_tape_here"] (defScope (Vh.top 19)) := ⟨rfl, rfl, rfl, by decide +kernel, rfl, by decide +kernel, by decide +kernel⟩
theorem ok_house (F : Fun K "_law_house" "_law_house" (Vh.top 19) f fd) (B : Blt mg) (C_law_draw : Cl P w K mg base k "_law_draw" (spDraw K)) (C_law_names : Cl P w K mg base k "_law_names" (spNames K))
    (C_law_part : Cl P w K mg base k "_law_part" (spPart K)) : FnOk P w K mg base CX0 (k + 1) f fd ["_law_tape_here"] (spHouse K) := by
  refine F.ok sc_law_house (fun vs H Q E h => ?_) (fun cdv A outer s H vs Q E hr h => ?_)
  · obtain ⟨t, rfl, _⟩ := h
    rfl
  obtain ⟨t, rfl, hT, q⟩ := h
  refine ⟨_, (pss_cons (ps_set (i := 1) sc_law_house.nd rfl (Or.inr rfl) (pe_cl C_law_names hr (by rfl) (pa_cons (pv 0) (pa_cons (pe_ix ix_list (pe_lst (pa_cons pe_int (pa_cons pe_int (pa_cons pe_int (pa_cons pe_int (pa_cons pe_int (pa_cons pe_int (pa_cons pe_int (pa_cons pe_int pa_nil))))))))) (pe_cl C_law_draw hr (by rfl) (pa_cons (pv 0) (pa_cons pe_int pa_nil))) (fun _ _ => rfl)) pa_nil))))
  (pss_cons (ps_set (i := 2) sc_law_house.nd rfl (Or.inr rfl) (pe_cmpR op_eq (pe_cl C_law_draw hr (by rfl) (pa_cons (pv 0) (pa_cons pe_int pa_nil))) pe_int (nomark _)))
  (pss_one (ps_ret (pe_callTy call_tuple_of (by rfl) B.tuple_ (by decide +kernel) (pa_cons (pe_lc (own := [("_law_k", 3)]) (g := (gName 3)) (by rfl) sc_law_house.nd (pi_range1 (by rfl) B.range_ (pa_cons (pe_callB call_len_seq (by rfl) B.len_ (by decide +kernel) (pa_cons (pv 1) pa_nil)) pa_nil)) (blkOk_by (own := [("_law_k", 3)]) (N := ["_law_tape_here", "_law_names_here", "_law_keyed", "_law_k"]) (sc := defScope (Vh.top 19)) (by decide +kernel)) (fun _ _ _ _ _ => (pg_name (i := 3) sc_law_house.nd rfl (.inl rfl))) (fun _ _ _ _ _ => pts_nil) (fun _ _ _ _ _ => (pe_cl C_law_part hr (by rfl) (pa_cons (pv 0) (pa_cons (pv 1) (pa_cons (pv 3) (pa_cons (pv 2) pa_nil))))))) pa_nil)))))), ?_⟩
  refine ⟨_, rfl, szb, fun l0 hl0 => ?_⟩
  refine ⟨_, rfl, t, 8, rfl, by decide, by decide, hT.same (same_new hl0 _), fun a H1 a0 a1 k1 T1 => ?_⟩
  obtain ⟨mn, hm0, hm6, hx⟩ : ∃ mn : Nat, 0 < mn ∧ mn ≤ 6 ∧ atI [V.int 1, .int 2, .int 2, .int 3, .int 3, .int 4, .int 2, .int 6] a = some (.int mn) := by
    have : a = 0 ∨ a = 1 ∨ a = 2 ∨ a = 3 ∨ a = 4 ∨ a = 5 ∨ a = 6 ∨ a = 7 := by omega
    rcases this with rfl | rfl | rfl | rfl | rfl | rfl | rfl | rfl
    · exact ⟨1, by decide, by decide, rfl⟩
    · exact ⟨2, by decide, by decide, rfl⟩
    · exact ⟨2, by decide, by decide, rfl⟩
    · exact ⟨3, by decide, by decide, rfl⟩
    · exact ⟨3, by decide, by decide, rfl⟩
    · exact ⟨4, by decide, by decide, rfl⟩
    · exact ⟨2, by decide, by decide, rfl⟩
    · exact ⟨6, by decide, by decide, rfl⟩
  refine ⟨l0, _, _, _, rfl, rfl, .of (k1.at1 (hT.new hl0) upd_same), hx, ?_⟩
  refine ⟨t, mn, rfl, by omega, T1, fun n names H2 hnl hnd k2 T2 hn0 e2 => ?_⟩
  have k02 : Kp [t] H H2 := (Kp.new hl0).trans (k1.trans k2)
  refine ⟨_, rfl, t, 2, rfl, by decide, by decide, T2, fun r H3 r0 r1 k3 T3 => ?_⟩
  have e3 : H3 n = some (.lst (names.map V.str)) := k3.at1 (T2.nes e2) e2
  have el : ((names.map V.str).length : Int) = (names.length : Int) := by rw [List.length_map]
  refine ⟨rfl, _, rfl, n, _, rfl, .inl (.of e3), ((names.map V.str).length : Int), rfl, by rw [el]; omega, by rw [el]; omega, fun A hA => ?_⟩
  rw [el]
  refine lc_range (lo := 0) (n := (names.length : Int).toNat) (fun i H4 => Kp [t] H3 H4 ∧ Tp K H4 t ∧ ∃ xs ds, H4 A = some (.lst xs) ∧ Dats H4 xs ds ∧ ds.length = i ∧ ∀ j d, ds[j]? = some d → PartOk names j d)
    ⟨.new hA, T3.same (same_new hA _), [], [], upd_same, .nil, rfl, fun j d h => by simp at h⟩ (fun i H4 hi hP => ?_) fun H4 hP => ?_
  · obtain ⟨k4, T4, xs, ds, e4, d4, hl4, h4⟩ := hP
    have hi' : i < names.length := by omega
    refine ⟨rfl, ?_⟩
    refine ⟨_, rfl, _, rfl, _, rfl, _, rfl, t, n, names, i, decide (V.int r = V.int 0), ?_, T4, k4.at1 (T3.nes e3) e3, hi', by omega, fun v d H5 hp dv k5 T5 => ?_⟩
    · rw [show (0 : Int) + (i : Int) = (i : Int) by omega]; rfl
    have e5 : H5 A = some (.lst xs) := k5.at1 (T3.new hA) e4
    refine ⟨xs, e5, ?_, (k4.trans k5).putN hA, T5.lst e5 _ (T3.new hA), xs ++ [v], ds ++ [d], upd_same, ((k5.dats d4).snoc dv).lst e5 _, by simp [hl4], fun j d' h' => ?_⟩
    · rw [d4.len, hl4]; exact small1000 (by omega)
    · rw [List.getElem?_append] at h'
      split at h'
      · exact h4 j d' h'
      · have : j = i := by
          have := (List.getElem?_eq_some_iff.mp h').1
          simp at this
          omega
        subst this
        rw [hl4, Nat.sub_self] at h'
        cases h'
        exact hp
  · obtain ⟨k4, T4, xs, ds, e4, d4, hl4, h4⟩ := hP
    refine ⟨A, xs, rfl, .inl ⟨.of e4, fun x hx => ?_⟩⟩
    exact q _ names ds _ ⟨by omega, by omega, by omega, hnd.1, h4⟩ (.made hx d4) (k02.trans (k3.trans (k4.trans (.new hx)))) (T4.same (same_new hx _))

/-- the generator, from the defs alone -/
structure GenG (K : PySem.W.Frag) (mg : Str → Option Value) : Prop where
  draw : Gf K mg "_law_draw" 5 ["_law_tape_here", "_law_many"]
  names : Gf K mg "_law_names" 6 ["_law_tape_here", "_law_many"]
  number : Gf K mg "_law_number" 7 ["_law_tape_here"]
  leaf : Gf K mg "_law_leaf" 8 ["_law_tape_here", "_law_kit", "_law_turns"]
  sum : Gf K mg "_law_sum" 9 ["_law_tape_here", "_law_kit", "_law_turns", "_law_deep"]
  key : Gf K mg "_law_key" 10 ["_law_tape_here", "_law_kit", "_law_turns"]
  pairs : Gf K mg "_law_pairs" 11 ["_law_tape_here", "_law_kit", "_law_turns", "_law_most"]
  hands : Gf K mg "_law_hands" 12 ["_law_tape_here", "_law_kit", "_law_turns"]
  plain : Gf K mg "_law_plain" 13 ["_law_tape_here", "_law_kit", "_law_turns", "_law_deep"]
  partl : Gf K mg "_law_part_line" 14 ["_law_tape_here", "_law_kit", "_law_turns", "_law_name"]
  each : Gf K mg "_law_each" 15 ["_law_tape_here", "_law_kit", "_law_deep"]
  line : Gf K mg "_law_line" 16 ["_law_tape_here", "_law_kit", "_law_turns", "_law_deep"]
  lines : Gf K mg "_law_lines" 17 ["_law_tape_here", "_law_kit", "_law_turns", "_law_deep"]
  part : Gf K mg "_law_part" 18 ["_law_tape_here", "_law_names_here", "_law_k", "_law_keyed"]
  house : Gf K mg "_law_house" 19 ["_law_tape_here"]
theorem cl_draw (g : GenG K mg) (B : Blt mg) : Cl P w K mg base 1 "_law_draw" (spDraw K) := g.draw.cl fun f fd F => ok_draw F B
theorem cl_names (g : GenG K mg) (B : Blt mg) : Cl P w K mg base 2 "_law_names" (spNames K) := g.names.cl fun f fd F => ok_names F B (cl_draw g B)
theorem cl_number (g : GenG K mg) (B : Blt mg) : Cl P w K mg base 2 "_law_number" (spNumber K) := g.number.cl fun f fd F => ok_number F B (cl_draw g B)
theorem cl_leaf (g : GenG K mg) (B : Blt mg) : Cl P w K mg base 3 "_law_leaf" (spLeaf K) := g.leaf.cl fun f fd F => ok_leaf F B ((cl_draw g B).mono (by decide)) (cl_number g B)
theorem cl_sum (g : GenG K mg) (B : Blt mg) : ∀ n, Cl P w K mg base (3 + n) "_law_sum" (spSum K n)
  | 0 => g.sum.cl fun f fd F => (sp_none (x := "_law_sum") (fun vs H Q E h => by obtain ⟨_, _, _, _, _, _, _, _, _, _, m, _, hm, _⟩ := h; exact Nat.not_lt_zero _ hm)).mono (Nat.zero_le _)
  | n + 1 => g.sum.cl fun f fd F => ok_sum (k := 3 + n) F B ((cl_draw g B).mono (by omega)) ((cl_leaf g B).mono (by omega)) (cl_sum g B n)
theorem cl_key (g : GenG K mg) (B : Blt mg) : Cl P w K mg base 7 "_law_key" (spKey K) := g.key.cl fun f fd F => ok_key F B ((cl_draw g B).mono (by decide)) ((cl_leaf g B).mono (by decide))
theorem cl_pairs (g : GenG K mg) (B : Blt mg) : Cl P w K mg base 7 "_law_pairs" (spPairs K) := g.pairs.cl fun f fd F => ok_pairs F B ((cl_draw g B).mono (by decide)) ((cl_names g B).mono (by decide)) ((cl_sum g B 3).mono (by decide))
theorem cl_hands (g : GenG K mg) (B : Blt mg) : Cl P w K mg base 7 "_law_hands" (spHands K) := g.hands.cl fun f fd F => ok_hands F B ((cl_draw g B).mono (by decide)) ((cl_sum g B 3).mono (by decide))
theorem cl_partl (g : GenG K mg) (B : Blt mg) : Cl P w K mg base 8 "_law_part_line" (spPartLine K) := g.partl.cl fun f fd F => ok_part_line F B ((cl_draw g B).mono (by decide)) (cl_key g B) ((cl_sum g B 3).mono (by decide))
theorem cl_lines (g : GenG K mg) (B : Blt mg) : ∀ n, Cl P w K mg base (8 + n) "_law_plain" (spPlain K n) ∧ Cl P w K mg base (8 + n) "_law_each" (spEach K n) ∧ Cl P w K mg base (8 + n) "_law_line" (spLine K n) ∧ Cl P w K mg base (8 + n) "_law_lines" (spLines K n)
  | 0 => ⟨g.plain.cl fun f fd F => (sp_none (x := "_law_plain") (fun vs H Q E h => by obtain ⟨_, _, _, _, _, _, _, _, _, _, _, m, _, hm, _⟩ := h; exact Nat.not_lt_zero _ hm)).mono (Nat.zero_le _),
    g.each.cl fun f fd F => (sp_none (x := "_law_each") (fun vs H Q E h => by obtain ⟨_, _, _, _, _, _, _, _, _, _, _, m, _, hm, _⟩ := h; exact Nat.not_lt_zero _ hm)).mono (Nat.zero_le _),
    g.line.cl fun f fd F => (sp_none (x := "_law_line") (fun vs H Q E h => by obtain ⟨_, _, _, _, _, _, _, _, _, _, _, m, _, hm, _⟩ := h; exact Nat.not_lt_zero _ hm)).mono (Nat.zero_le _),
    g.lines.cl fun f fd F => (sp_none (x := "_law_lines") (fun vs H Q E h => by obtain ⟨_, _, _, _, _, _, _, _, _, _, _, m, _, hm, _⟩ := h; exact Nat.not_lt_zero _ hm)).mono (Nat.zero_le _)⟩
  | n + 1 => by
    obtain ⟨c1, c2, c3, c4⟩ := cl_lines g B n
    have d1 : Cl P w K mg base (8 + n) "_law_draw" (spDraw K) := (cl_draw g B).mono (by omega)
    have d2 : Cl P w K mg base (8 + n) "_law_names" (spNames K) := (cl_names g B).mono (by omega)
    have d3 : Cl P w K mg base (8 + n) "_law_leaf" (spLeaf K) := (cl_leaf g B).mono (by omega)
    have d4 : Cl P w K mg base (8 + n) "_law_sum" (spSum K 3) := (cl_sum g B 3).mono (by omega)
    have d5 : Cl P w K mg base (8 + n) "_law_key" (spKey K) := (cl_key g B).mono (by omega)
    have d6 : Cl P w K mg base (8 + n) "_law_pairs" (spPairs K) := (cl_pairs g B).mono (by omega)
    have d7 : Cl P w K mg base (8 + n) "_law_hands" (spHands K) := (cl_hands g B).mono (by omega)
    have d8 : Cl P w K mg base (8 + n) "_law_part_line" (spPartLine K) := (cl_partl g B).mono (by omega)
    exact ⟨g.plain.cl fun f fd F => ok_plain F B d1 d2 d5 d6 d7 c4, g.each.cl fun f fd F => ok_each F B d1 d2 d3 d8 c3, g.line.cl fun f fd F => ok_line F B d1 d5 d4 d8 c2 c1 c4, g.lines.cl fun f fd F => ok_lines F B d1 c3⟩
theorem cl_part (g : GenG K mg) (B : Blt mg) : Cl P w K mg base 32 "_law_part" (spPart K) := g.part.cl fun f fd F => ok_part F B ((cl_draw g B).mono (by decide)) ((cl_names g B).mono (by decide)) ((cl_number g B).mono (by decide)) ((cl_sum g B 3).mono (by decide)) (cl_lines g B 23).2.2.2
theorem cl_house (g : GenG K mg) (B : Blt mg) : Cl P w K mg base 33 "_law_house" (spHouse K) := g.house.cl fun f fd F => ok_house F B ((cl_draw g B).mono (by decide)) ((cl_names g B).mono (by decide)) (cl_part g B)
end
end Vw

/-! rows as trees -/
namespace Vw

inductive R where
  | nil
  | plain (s : Spot) (tag : PySem.Str) (sets hands : List D) (row next : R)
  | part (s : Spot) (name : PySem.Str) (gives : List D) (row next : R)
  | give (s : Spot) (name : PySem.Str) (num : Int) (row next : R)
namespace R
def D : R → List D
  | .nil => []
  | .plain s tag sets hands row next => .tup [.str "plain", spotD s, .str tag, .tup sets, .tup hands, .tup row.D] :: next.D
  | .part s name gives _ next => .tup [.str "part", spotD s, .str name, .tup gives] :: next.D
  | .give s name num row next => .tup [.str "give", spotD s, .str name, .int num, .tup row.D] :: next.D
def spots : R → List Spot
  | .nil => []
  | .plain s _ _ _ _ next => s :: next.spots
  | .part s _ _ _ next => s :: next.spots
  | .give s _ _ _ next => s :: next.spots
def app : R → R → R
  | .nil, b => b
  | .plain s tag sets hands row next, b => .plain s tag sets hands row (next.app b)
  | .part s name gives row next, b => .part s name gives row (next.app b)
  | .give s name num row next, b => .give s name num row (next.app b)
/-- how many parts, not counting those within parts -/
def np : R → Nat
  | .nil => 0
  | .plain _ _ _ _ row next => row.np + next.np
  | .part _ _ _ _ next => 1 + next.np
  | .give _ _ _ row next => row.np + next.np
/-- how many things in all -/
def sz : R → Nat
  | .nil => 0
  | .plain _ _ _ _ row next => 1 + row.sz + next.sz
  | .part _ _ _ row next => 1 + row.sz + next.sz
  | .give _ _ _ row next => 1 + row.sz + next.sz
def dep : R → Nat
  | .nil => 0
  | .plain _ _ _ _ row next => max (row.dep + 1) next.dep
  | .part _ _ _ row next => max (row.dep + 1) next.dep
  | .give _ _ _ row next => max (row.dep + 1) next.dep
def ChR (d : Vw.D) : Prop := ∃ x y i, d = .tup [.str x, .str y, .int i]
def HdR (d : Vw.D) : Prop := ∃ x i b ch, d = .tup [.str x, .int i, .bl b, .tup ch] ∧ (∀ c ∈ ch, ChR c) ∧ ch.length ≤ 100
def HS (sets hands : List Vw.D) : Prop := (∀ h ∈ hands, HdR h) ∧ (∀ s ∈ sets, PrI s) ∧ sets.length ≤ 100
def Wf : R → Prop
  | .nil => True
  | .plain s _ sets hands row next => HS sets hands ∧ hands.length ≤ 100 ∧ s ∉ next.spots ∧ row.Wf ∧ next.Wf
  | .part s _ _ row next => s ∉ next.spots ∧ row.Wf ∧ next.Wf
  | .give s _ _ row next => s ∉ next.spots ∧ row.Wf ∧ next.Wf
/-- names and numbers of a row as drawn -/
def Nm (nms : List PySem.Str) : R → Prop
  | .nil => True
  | .plain _ _ _ _ row next => row.Nm nms ∧ next.Nm nms
  | .part _ name gives _ next => name ∈ nms ∧ (∀ g ∈ gives, PrI g) ∧ gives.length ≤ 100 ∧ next.Nm nms
  | .give _ _ num row next => Sm num ∧ row.Nm nms ∧ next.Nm nms

theorem D_app : ∀ a b : R, (a.app b).D = a.D ++ b.D
  | .nil, b => rfl
  | .plain .., b => by simp only [app, D, D_app, List.cons_append]
  | .part .., b => by simp only [app, D, D_app, List.cons_append]
  | .give .., b => by simp only [app, D, D_app, List.cons_append]
theorem spots_app : ∀ a b : R, (a.app b).spots = a.spots ++ b.spots
  | .nil, b => rfl
  | .plain .., b => by simp only [app, spots, spots_app, List.cons_append]
  | .part .., b => by simp only [app, spots, spots_app, List.cons_append]
  | .give .., b => by simp only [app, spots, spots_app, List.cons_append]
theorem np_app : ∀ a b : R, (a.app b).np = a.np + b.np
  | .nil, b => by simp only [app, np]; omega
  | .plain _ _ _ _ _ n, b => by have := np_app n b; simp only [app, np]; omega
  | .part _ _ _ _ n, b => by have := np_app n b; simp only [app, np]; omega
  | .give _ _ _ _ n, b => by have := np_app n b; simp only [app, np]; omega
theorem sz_app : ∀ a b : R, (a.app b).sz = a.sz + b.sz
  | .nil, b => by simp only [app, sz]; omega
  | .plain _ _ _ _ _ n, b => by have := sz_app n b; simp only [app, sz]; omega
  | .part _ _ _ _ n, b => by have := sz_app n b; simp only [app, sz]; omega
  | .give _ _ _ _ n, b => by have := sz_app n b; simp only [app, sz]; omega
theorem dep_app : ∀ a b : R, (a.app b).dep = max a.dep b.dep
  | .nil, b => by simp only [app, dep]; omega
  | .plain _ _ _ _ _ n, b => by have := dep_app n b; simp only [app, dep]; omega
  | .part _ _ _ _ n, b => by have := dep_app n b; simp only [app, dep]; omega
  | .give _ _ _ _ n, b => by have := dep_app n b; simp only [app, dep]; omega
theorem Wf_app : ∀ a b : R, a.Wf → b.Wf → (∀ s ∈ a.spots, s ∉ b.spots) → (a.app b).Wf
  | .nil, b, _, h, _ => h
  | .plain _ _ _ _ _ n, b, h, k, d => by
    obtain ⟨h1, h2, h3, h4, h5⟩ := h
    refine ⟨h1, h2, ?_, h4, Wf_app n b h5 k fun s m => d s (List.mem_cons_of_mem _ m)⟩
    rw [spots_app, List.mem_append]
    exact fun z => z.elim h3 (d _ (List.mem_cons_self ..))
  | .part _ _ _ _ n, b, h, k, d => by
    obtain ⟨h3, h4, h5⟩ := h
    refine ⟨?_, h4, Wf_app n b h5 k fun s m => d s (List.mem_cons_of_mem _ m)⟩
    rw [spots_app, List.mem_append]
    exact fun z => z.elim h3 (d _ (List.mem_cons_self ..))
  | .give _ _ _ _ n, b, h, k, d => by
    obtain ⟨h3, h4, h5⟩ := h
    refine ⟨?_, h4, Wf_app n b h5 k fun s m => d s (List.mem_cons_of_mem _ m)⟩
    rw [spots_app, List.mem_append]
    exact fun z => z.elim h3 (d _ (List.mem_cons_self ..))
theorem Nm_app {nms : List PySem.Str} : ∀ a b : R, a.Nm nms → b.Nm nms → (a.app b).Nm nms
  | .nil, b, _, h => h
  | .plain _ _ _ _ _ n, b, h, k => ⟨h.1, Nm_app n b h.2 k⟩
  | .part _ _ _ _ n, b, h, k => ⟨h.1, h.2.1, h.2.2.1, Nm_app n b h.2.2.2 k⟩
  | .give _ _ _ _ n, b, h, k => ⟨h.1, h.2.1, Nm_app n b h.2.2 k⟩
theorem D_len : ∀ r : R, r.D.length = r.spots.length
  | .nil => rfl
  | .plain .. => by simp only [D, spots, List.length_cons, D_len]
  | .part .. => by simp only [D, spots, List.length_cons, D_len]
  | .give .. => by simp only [D, spots, List.length_cons, D_len]
theorem spots_sz : ∀ r : R, r.spots.length ≤ r.sz
  | .nil => Nat.le_refl _
  | .plain _ _ _ _ _ n => by have := spots_sz n; simp only [spots, sz, List.length_cons]; omega
  | .part _ _ _ _ n => by have := spots_sz n; simp only [spots, sz, List.length_cons]; omega
  | .give _ _ _ _ n => by have := spots_sz n; simp only [spots, sz, List.length_cons]; omega
theorem np_sz : ∀ r : R, r.np ≤ r.sz
  | .nil => Nat.le_refl _
  | .plain _ _ _ _ r n => by have := np_sz n; have := np_sz r; simp only [np, sz]; omega
  | .part _ _ _ _ n => by have := np_sz n; simp only [np, sz]; omega
  | .give _ _ _ r n => by have := np_sz n; have := np_sz r; simp only [np, sz]; omega

/-- the parts of a row, in the order they stand in: their paths -/
def pts (b : List Spot) : R → List (List Spot)
  | .nil => []
  | .plain s _ _ _ row next => row.pts (b ++ [s]) ++ next.pts b
  | .part s _ _ _ next => (b ++ [s]) :: next.pts b
  | .give s _ _ row next => row.pts (b ++ [s]) ++ next.pts b
theorem pts_len : ∀ (r : R) (b : List Spot), (r.pts b).length = r.np
  | .nil, b => rfl
  | .plain _ _ _ _ r n, b => by simp only [pts, np, List.length_append, pts_len r, pts_len n]
  | .part _ _ _ _ n, b => by simp only [pts, np, List.length_cons, pts_len n]; omega
  | .give _ _ _ r n, b => by simp only [pts, np, List.length_append, pts_len r, pts_len n]
theorem pts_pre : ∀ (r : R) (a b : List Spot), r.pts (a ++ b) = (r.pts b).map (a ++ ·)
  | .nil, a, b => rfl
  | .plain s _ _ _ r n, a, b => by simp only [pts, List.map_append, List.append_assoc, pts_pre r, pts_pre n]
  | .part s _ _ _ n, a, b => by simp only [pts, List.map_cons, List.append_assoc, pts_pre n]
  | .give s _ _ r n, a, b => by simp only [pts, List.map_append, List.append_assoc, pts_pre r, pts_pre n]
theorem pts_nil (r : R) (a : List Spot) : r.pts a = (r.pts []).map (a ++ ·) := by
  have := pts_pre r a []
  rw [List.append_nil] at this
  exact this
/-- the drawings within a row of a whole tree -/
def subs (b : List Spot) : R → List (List Spot × R)
  | .nil => []
  | .plain s _ _ _ row next => row.subs (b ++ [s]) ++ next.subs b
  | .part s _ _ row next => (b ++ [s], row) :: row.subs (b ++ [s]) ++ next.subs b
  | .give s _ _ row next => row.subs (b ++ [s]) ++ next.subs b
def ents (b : List Spot) (r : R) : List (List Spot × R) := (b, r) :: r.subs b
theorem subs_pre : ∀ (r : R) (b q : List Spot) (r' : R), (q, r') ∈ r.subs b → ∃ s ∈ r.spots, ∃ t, q = b ++ s :: t
  | .nil, b, q, r', h => nomatch h
  | .plain s _ _ _ row next, b, q, r', h => by
    rcases List.mem_append.mp h with h | h
    · obtain ⟨s', _, t, rfl⟩ := subs_pre row _ q r' h
      exact ⟨s, List.mem_cons_self .., s' :: t, by simp⟩
    · obtain ⟨s', m, t, e⟩ := subs_pre next _ q r' h
      exact ⟨s', List.mem_cons_of_mem _ m, t, e⟩
  | .part s _ _ row next, b, q, r', h => by
    rcases List.mem_append.mp h with h | h
    · rcases List.mem_cons.mp h with h | h
      · cases h
        exact ⟨s, List.mem_cons_self .., [], rfl⟩
      · obtain ⟨s', _, t, rfl⟩ := subs_pre row _ q r' h
        exact ⟨s, List.mem_cons_self .., s' :: t, by simp⟩
    · obtain ⟨s', m, t, e⟩ := subs_pre next _ q r' h
      exact ⟨s', List.mem_cons_of_mem _ m, t, e⟩
  | .give s _ _ row next, b, q, r', h => by
    rcases List.mem_append.mp h with h | h
    · obtain ⟨s', _, t, rfl⟩ := subs_pre row _ q r' h
      exact ⟨s, List.mem_cons_self .., s' :: t, by simp⟩
    · obtain ⟨s', m, t, e⟩ := subs_pre next _ q r' h
      exact ⟨s', List.mem_cons_of_mem _ m, t, e⟩
theorem mem_fst {xs : List (List Spot × R)} {q : List Spot} (h : q ∈ xs.map (·.1)) : ∃ r, (q, r) ∈ xs := by
  obtain ⟨⟨a, b⟩, m, rfl⟩ := List.mem_map.mp h
  exact ⟨b, m⟩
theorem app_sep {b : List Spot} {s s' : Spot} {t t' : List Spot} (h : b ++ s :: t = b ++ s' :: t') : s = s' := by
  have := List.append_cancel_left h
  exact (List.cons.inj this).1
theorem subs_nd : ∀ (r : R) (b : List Spot), r.Wf → ((r.subs b).map (·.1)).Nodup
  | .nil, b, _ => List.nodup_nil
  | .plain s _ _ _ row next, b, h => by
    obtain ⟨_, _, h3, h4, h5⟩ := h
    rw [subs, List.map_append, List.nodup_append]
    refine ⟨subs_nd row _ h4, subs_nd next _ h5, fun x hx y hy e => ?_⟩
    subst e
    obtain ⟨r1, m1⟩ := mem_fst hx
    obtain ⟨r2, m2⟩ := mem_fst hy
    obtain ⟨s1, _, t1, e1⟩ := subs_pre row _ _ _ m1
    obtain ⟨s2, k2, t2, e2⟩ := subs_pre next _ _ _ m2
    rw [e1, List.append_assoc, List.singleton_append] at e2
    rw [app_sep e2] at h3
    exact h3 k2
  | .part s _ _ row next, b, h => by
    obtain ⟨h3, h4, h5⟩ := h
    rw [subs, List.map_append, List.nodup_append]
    refine ⟨?_, subs_nd next _ h5, fun x hx y hy e => ?_⟩
    · rw [List.map_cons, List.nodup_cons]
      refine ⟨fun m => ?_, subs_nd row _ h4⟩
      obtain ⟨r1, m1⟩ := mem_fst m
      obtain ⟨s1, _, t1, e1⟩ := subs_pre row _ _ _ m1
      have := congrArg List.length e1
      simp at this
    · subst e
      obtain ⟨r2, m2⟩ := mem_fst hy
      obtain ⟨s2, k2, t2, e2⟩ := subs_pre next _ _ _ m2
      have : ∃ t, x = b ++ s :: t := by
        rw [List.map_cons] at hx
        rcases List.mem_cons.mp hx with rfl | hx
        · exact ⟨[], rfl⟩
        · obtain ⟨r1, m1⟩ := mem_fst hx
          obtain ⟨s1, _, t1, e1⟩ := subs_pre row _ _ _ m1
          exact ⟨s1 :: t1, by rw [e1]; simp⟩
      obtain ⟨t, e1⟩ := this
      rw [e1] at e2
      rw [app_sep e2] at h3
      exact h3 k2
  | .give s _ _ row next, b, h => by
    obtain ⟨h3, h4, h5⟩ := h
    rw [subs, List.map_append, List.nodup_append]
    refine ⟨subs_nd row _ h4, subs_nd next _ h5, fun x hx y hy e => ?_⟩
    subst e
    obtain ⟨r1, m1⟩ := mem_fst hx
    obtain ⟨r2, m2⟩ := mem_fst hy
    obtain ⟨s1, _, t1, e1⟩ := subs_pre row _ _ _ m1
    obtain ⟨s2, k2, t2, e2⟩ := subs_pre next _ _ _ m2
    rw [e1, List.append_assoc, List.singleton_append] at e2
    rw [app_sep e2] at h3
    exact h3 k2
theorem ents_nd {r : R} {b : List Spot} (h : r.Wf) : ((r.ents b).map (·.1)).Nodup := by
  rw [ents, List.map_cons, List.nodup_cons]
  refine ⟨fun m => ?_, subs_nd r b h⟩
  obtain ⟨r1, m1⟩ := mem_fst m
  obtain ⟨s1, _, t1, e1⟩ := subs_pre r _ _ _ m1
  have := congrArg List.length e1
  simp at this

/-- a row whose parts are filled with their own rows -/
inductive Fl : R → List R → R → Prop
  | nil : Fl .nil [] .nil
  | plain {s tag sets hands row next t1 t2 row' next'} : Fl row t1 row' → Fl next t2 next' → Fl (.plain s tag sets hands row next) (t1 ++ t2) (.plain s tag sets hands row' next')
  | part {s name gives row next t ts next'} : Fl next ts next' → Fl (.part s name gives row next) (t :: ts) (.part s name gives t next')
  | give {s name num row next t1 t2 row' next'} : Fl row t1 row' → Fl next t2 next' → Fl (.give s name num row next) (t1 ++ t2) (.give s name num row' next')
theorem fill : ∀ (r : R) (ts : List R), ts.length = r.np → ∃ r', Fl r ts r'
  | .nil, ts, h => by
    obtain rfl := List.eq_nil_of_length_eq_zero h
    exact ⟨_, .nil⟩
  | .plain s tag sets hands row next, ts, h => by
    simp only [np] at h
    obtain ⟨a, ha⟩ := fill row (ts.take row.np) (by rw [List.length_take]; omega)
    obtain ⟨b, hb⟩ := fill next (ts.drop row.np) (by rw [List.length_drop]; omega)
    exact ⟨_, by
      have := Fl.plain (s := s) (tag := tag) (sets := sets) (hands := hands) ha hb
      rw [List.take_append_drop] at this
      exact this⟩
  | .part _ _ _ _ next, ts, h => by
    simp only [np] at h
    match ts, h with
    | [], h => exact absurd h (by simp only [List.length_nil]; omega)
    | t :: ts, h =>
      obtain ⟨b, hb⟩ := fill next ts (by simp at h; omega)
      exact ⟨_, .part hb⟩
  | .give _ _ _ row next, ts, h => by
    simp only [np] at h
    obtain ⟨a, ha⟩ := fill row (ts.take row.np) (by rw [List.length_take]; omega)
    obtain ⟨b, hb⟩ := fill next (ts.drop row.np) (by rw [List.length_drop]; omega)
    exact ⟨_, by
      have := Fl.give (s := by assumption) (name := by assumption) (num := by assumption) ha hb
      rw [List.take_append_drop] at this
      exact this⟩
theorem Fl.D {r r' : R} {ts : List R} (h : Fl r ts r') : r'.D = r.D := by
  induction h with
  | nil => rfl
  | plain _ _ i1 i2 => simp only [R.D, i1, i2]
  | part _ i => simp only [R.D, i]
  | give _ _ i1 i2 => simp only [R.D, i1, i2]
theorem Fl.spots {r r' : R} {ts : List R} (h : Fl r ts r') : r'.spots = r.spots := by
  induction h with
  | nil => rfl
  | plain _ _ i1 i2 => simp only [R.spots, i1, i2]
  | part _ i => simp only [R.spots, i]
  | give _ _ i1 i2 => simp only [R.spots, i1, i2]
theorem Fl.len {r r' : R} {ts : List R} (h : Fl r ts r') : ts.length = r.np := by
  induction h with
  | nil => rfl
  | plain _ _ i1 i2 => simp only [np, List.length_append, i1, i2]
  | part _ i => simp only [np, List.length_cons, i]; omega
  | give _ _ i1 i2 => simp only [np, List.length_append, i1, i2]
/-- the drawings of a filled row: each part's, one after the other -/
def flat (ps : List (List Spot)) (ts : List R) : List (List Spot × R) := (ps.zip ts).flatMap fun x => x.2.ents x.1
theorem flat_app {p1 p2 : List (List Spot)} {t1 t2 : List R} (h : p1.length = t1.length) : flat (p1 ++ p2) (t1 ++ t2) = flat p1 t1 ++ flat p2 t2 := by
  simp only [flat, List.zip_append h, List.flatMap_append]
theorem Fl.subs {r r' : R} {ts : List R} (h : Fl r ts r') : ∀ b, r'.subs b = flat (r.pts b) ts := by
  induction h with
  | nil => intro b; rfl
  | plain h1 _ i1 i2 => intro b; simp only [R.subs, pts, i1, i2]; rw [flat_app (by rw [pts_len, h1.len])]
  | part _ i =>
    intro b
    simp only [R.subs, pts, i]
    simp [flat, ents]
  | give h1 _ i1 i2 => intro b; simp only [R.subs, pts, i1, i2]; rw [flat_app (by rw [pts_len, h1.len])]
def szs : List R → Nat
  | [] => 0
  | t :: ts => t.sz + szs ts
theorem szs_app : ∀ a b : List R, szs (a ++ b) = szs a + szs b
  | [], b => by simp [szs]
  | t :: a, b => by simp only [List.cons_append, szs, szs_app a b]; omega
theorem szs_le {n : Nat} : ∀ {ts : List R}, (∀ t ∈ ts, t.sz ≤ n) → szs ts ≤ ts.length * n
  | [], _ => by simp [szs]
  | t :: ts, h => by
    have h1 := szs_le (ts := ts) fun t m => h t (List.mem_cons_of_mem _ m)
    have h2 := h t (List.mem_cons_self ..)
    simp only [szs, List.length_cons, Nat.succ_mul]
    omega
theorem Fl.sz {r r' : R} {ts : List R} (h : Fl r ts r') : r'.sz ≤ r.sz + szs ts := by
  induction h with
  | nil => exact Nat.le_refl _
  | plain _ _ i1 i2 => simp only [R.sz, szs_app]; omega
  | part _ i => simp only [R.sz, szs]; omega
  | give _ _ i1 i2 => simp only [R.sz, szs_app]; omega
theorem Fl.dep {r r' : R} {ts : List R} {M : Nat} (h : Fl r ts r') : (∀ t ∈ ts, t.dep ≤ M) → r'.dep ≤ r.dep + M := by
  induction h with
  | nil => intro _; simp [R.dep]
  | plain _ _ i1 i2 =>
    intro q
    have := i1 fun t m => q t (List.mem_append_left _ m)
    have := i2 fun t m => q t (List.mem_append_right _ m)
    simp only [R.dep]; omega
  | part _ i =>
    intro q
    have := q _ (List.mem_cons_self ..)
    have := i fun t m => q t (List.mem_cons_of_mem _ m)
    simp only [R.dep]; omega
  | give _ _ i1 i2 =>
    intro q
    have := i1 fun t m => q t (List.mem_append_left _ m)
    have := i2 fun t m => q t (List.mem_append_right _ m)
    simp only [R.dep]; omega
theorem Fl.Wf {r r' : R} {ts : List R} (h : Fl r ts r') : r.Wf → (∀ t ∈ ts, t.Wf) → r'.Wf := by
  induction h with
  | nil => intro h _; exact h
  | plain h1 h2 i1 i2 =>
    rintro ⟨a1, a2, a3, a4, a5⟩ q
    exact ⟨a1, a2, by rw [h2.spots]; exact a3, i1 a4 fun t m => q t (List.mem_append_left _ m), i2 a5 fun t m => q t (List.mem_append_right _ m)⟩
  | part h1 i =>
    rintro ⟨a3, a4, a5⟩ q
    exact ⟨by rw [h1.spots]; exact a3, q _ (List.mem_cons_self ..), i a5 fun t m => q t (List.mem_cons_of_mem _ m)⟩
  | give h1 h2 i1 i2 =>
    rintro ⟨a3, a4, a5⟩ q
    exact ⟨by rw [h2.spots]; exact a3, i1 a4 fun t m => q t (List.mem_append_left _ m), i2 a5 fun t m => q t (List.mem_append_right _ m)⟩

/-- a hand with the path of its part -/
def ins (p : List Spot) : Vw.D → Vw.D
  | .tup [a, b, c, e] => .tup [a, b, c, pathD p, e]
  | d => d
/-- the boxes of a row -/
def bx (p b a : List Spot) : R → List Vw.D
  | .nil => []
  | .plain s tag sets hands row next => .tup [pathD (a ++ [s]), .tup [.str tag, .tup sets, .tup (hands.map (ins p)), .tup (row.bx p (b ++ [s]) [])]] :: next.bx p b a
  | .part s _ _ row next => row.bx (b ++ [s]) (b ++ [s]) (a ++ [s]) ++ next.bx p b a
  | .give s _ _ row next => row.bx p (b ++ [s]) (a ++ [s]) ++ next.bx p b a
theorem bx_len : ∀ (r : R) (p b a : List Spot), (r.bx p b a).length ≤ r.sz
  | .nil, p, b, a => Nat.le_refl _
  | .plain s _ _ _ r n, p, b, a => by have := bx_len n p b a; simp only [bx, sz, List.length_cons]; omega
  | .part s _ _ r n, p, b, a => by have := bx_len n p b a; have := bx_len r (b ++ [s]) (b ++ [s]) (a ++ [s]); simp only [bx, sz, List.length_append]; omega
  | .give s _ _ r n, p, b, a => by have := bx_len n p b a; have := bx_len r p (b ++ [s]) (a ++ [s]); simp only [bx, sz, List.length_append]; omega
end R
end Vw

set_option maxHeartbeats 4000000
/-! reckonings -/
namespace Vw
open PySem PySem.Spec PyProof.Rows L2
open C8 (pss_cut tCut)

theorem nd_le {α : Type} [DecidableEq α] : ∀ {xs ys : List α}, xs.Nodup → (∀ x ∈ xs, x ∈ ys) → xs.length ≤ ys.length
  | [], ys, _, _ => Nat.zero_le _
  | x :: xs, ys, h, q => by
    obtain ⟨h1, h2⟩ := List.nodup_cons.mp h
    have hx := q x (List.mem_cons_self ..)
    have h3 := nd_le (ys := ys.erase x) h2 fun y m => by
      refine (List.mem_erase_of_ne ?_).mpr (q y (List.mem_cons_of_mem _ m))
      rintro rfl
      exact h1 m
    have h4 := List.length_erase_of_mem hx
    have h5 := List.length_pos_of_mem hx
    rw [List.length_cons]
    omega
section
variable {κ : Type} [DecidableEq κ]
theorem mem_putK {kvs : List (κ × V)} {k : κ} {v : V} {kv : κ × V} (h : kv ∈ putK kvs k v) : kv = (k, v) ∨ kv ∈ kvs := by
  unfold putK at h
  split at h
  · obtain ⟨x, hx, rfl⟩ := List.mem_map.mp h
    split
    · next e => left; rw [e]
    · exact .inr hx
  · rcases List.mem_append.mp h with h | h
    · exact .inr h
    · exact .inl (List.mem_singleton.mp h)
theorem nodup_putK {kvs : List (κ × V)} {k : κ} {v : V} (h : (kvs.map (·.1)).Nodup) : ((putK kvs k v).map (·.1)).Nodup := by
  by_cases e : valV kvs k = none
  · exact nd_putK v h e
  · unfold putK
    rw [valV_any]
    cases q : valV kvs k with
    | none => exact absurd q e
    | some x =>
      rw [Option.isSome_some, if_pos rfl, List.map_map]
      have : (kvs.map ((·.1) ∘ fun kv => if kv.1 = k then (kv.1, v) else kv)) = kvs.map (·.1) := by
        refine List.map_congr_left fun a _ => ?_
        simp only [Function.comp]
        split <;> rfl
      rw [this]
      exact h
theorem valV_mem {kvs : List (κ × V)} {k : κ} {v : V} (h : valV kvs k = some v) : (k, v) ∈ kvs := by
  unfold valV at h
  obtain ⟨a, ha, rfl⟩ := Option.map_eq_some_iff.mp h
  have h1 := List.find?_some ha
  have h2 := List.mem_of_find?_eq_some ha
  have h3 : a.1 = k := of_decide_eq_true h1
  rw [← h3]
  exact h2
end

theorem Dat.two {H : Hp} {v : V} {d e : D} (h : Dat H v (.tup [d, e])) : ∃ a x y, v = .ref a ∧ Rd H a (.tup [x, y]) ∧ Dat H x d ∧ Dat H y e := by
  obtain ⟨a, xs, rfl, ea, t⟩ := h.tup_inv
  obtain ⟨x, xs, rfl, p, t⟩ := t.cons_inv
  obtain ⟨y, xs, rfl, q, t⟩ := t.cons_inv
  obtain rfl := t.nil_inv
  exact ⟨a, x, y, rfl, ea, p, q⟩
theorem Dat.three {H : Hp} {v : V} {d e f : D} (h : Dat H v (.tup [d, e, f])) : ∃ a x y z, v = .ref a ∧ Rd H a (.tup [x, y, z]) ∧ Dat H x d ∧ Dat H y e ∧ Dat H z f := by
  obtain ⟨a, xs, rfl, ea, t⟩ := h.tup_inv
  obtain ⟨x, xs, rfl, p, t⟩ := t.cons_inv
  obtain ⟨y, xs, rfl, q, t⟩ := t.cons_inv
  obtain ⟨z, xs, rfl, r, t⟩ := t.cons_inv
  obtain rfl := t.nil_inv
  exact ⟨a, x, y, z, rfl, ea, p, q, r⟩
theorem Dat.four {H : Hp} {v : V} {d e f g : D} (h : Dat H v (.tup [d, e, f, g])) : ∃ a x y z u, v = .ref a ∧ Rd H a (.tup [x, y, z, u]) ∧ Dat H x d ∧ Dat H y e ∧ Dat H z f ∧ Dat H u g := by
  obtain ⟨a, xs, rfl, ea, t⟩ := h.tup_inv
  obtain ⟨x, xs, rfl, p, t⟩ := t.cons_inv
  obtain ⟨y, xs, rfl, q, t⟩ := t.cons_inv
  obtain ⟨z, xs, rfl, r, t⟩ := t.cons_inv
  obtain ⟨u, xs, rfl, s, t⟩ := t.cons_inv
  obtain rfl := t.nil_inv
  exact ⟨a, x, y, z, u, rfl, ea, p, q, r, s⟩
def Ints {κ : Type} (kvs : List (κ × V)) : Prop := ∀ kv ∈ kvs, ∃ i, kv.2 = .int i ∧ Sm i
theorem Ints.put {κ : Type} [DecidableEq κ] {kvs : List (κ × V)} {k : κ} {i : Int} (h : Ints kvs) (hi : Sm i) : Ints (putK kvs k (.int i)) := fun kv m => by
  rcases mem_putK m with e | e
  · rw [e]; exact ⟨i, rfl, hi⟩
  · exact h kv e
theorem Ints.at {κ : Type} [DecidableEq κ] {kvs : List (κ × V)} {k : κ} {v : V} (h : Ints kvs) (e : valV kvs k = some v) : ∃ i, v = .int i ∧ Sm i := h _ (valV_mem e)
def askKeys : List (List Key) := [("take" : Str), "box", "down"].flatMap fun w => pool.map fun a => [.inr w, .inr a]
theorem askKeys_mem {w a : Str} (h : w = "take" ∨ w = "box" ∨ w = "down") (k : a ∈ pool) : [Sum.inr w, Sum.inr a] ∈ askKeys := by
  refine List.mem_flatMap.mpr ⟨w, ?_, List.mem_map.mpr ⟨a, k, rfl⟩⟩
  rcases h with rfl | rfl | rfl <;> simp
/-- the dict of what was read -/
structure RdD (kvs : List (List Key × V)) : Prop where
  nd : (kvs.map (·.1)).Nodup
  ks : ∀ k ∈ kvs.map (·.1), k ∈ askKeys
  vs : Ints kvs
theorem RdD.len {kvs : List (List Key × V)} (h : RdD kvs) : kvs.length ≤ 36 := by
  have := nd_le h.nd h.ks
  rw [List.length_map] at this
  exact this
theorem RdD.put {kvs : List (List Key × V)} {k : List Key} {i : Int} (h : RdD kvs) (hk : k ∈ askKeys) (hi : Sm i) : RdD (putK kvs k (.int i)) := by
  refine ⟨nodup_putK h.nd, fun k' m => ?_, h.vs.put hi⟩
  obtain ⟨kv, m2, rfl⟩ := List.mem_map.mp m
  rcases mem_putK m2 with e | e
  · rw [e]; exact hk
  · exact h.ks _ (List.mem_map.mpr ⟨_, e, rfl⟩)
theorem RdD.nil : RdD [] := ⟨List.nodup_nil, (fun _ h => nomatch h), (fun _ h => nomatch h)⟩
def Rds (H : Hp) (r : Addr) : Prop := ∃ kvs, H r = some (.dT kvs) ∧ RdD kvs
def Ans (H : Hp) (a : Addr) : Prop := ∃ kvs, H a = some (.dT kvs) ∧ Ints kvs
def Trn (H : Hp) (tr : Addr) (ts : List Str) (n : Nat) : Prop := ∃ kvs : List (Key × V), H tr = some (.dK kvs) ∧ kvs.length ≤ n ∧ ∀ x ∈ ts, ∃ i, valV kvs (.inr x) = some (.int i) ∧ Sm i
structure Ask (H : Hp) (a tr r : Addr) (ts : List Str) (n : Nat) : Prop where
  an : Ans H a
  tn : Trn H tr ts n
  rd : Rds H r
  ne : a ≠ r
theorem Ans.kp {ms : List Addr} {H H' : Hp} {a : Addr} (h : Ans H a) (k : Kp ms H H') (n : a ∉ ms) : Ans H' a := let ⟨kvs, e, q⟩ := h; ⟨kvs, k.all _ _ n e, q⟩
theorem Trn.kp {ms : List Addr} {H H' : Hp} {a : Addr} {ts : List Str} {m : Nat} (h : Trn H a ts m) (k : Kp ms H H') (n : a ∉ ms) : Trn H' a ts m := let ⟨kvs, e, q⟩ := h; ⟨kvs, k.all _ _ n e, q⟩
theorem Rds.kp {ms : List Addr} {H H' : Hp} {a : Addr} (h : Rds H a) (k : Kp ms H H') (n : a ∉ ms) : Rds H' a := let ⟨kvs, e, q⟩ := h; ⟨kvs, k.all _ _ n e, q⟩
theorem Ask.tr_ne {H : Hp} {a tr r : Addr} {ts : List Str} {n : Nat} (h : Ask H a tr r ts n) : tr ≠ r := by
  obtain ⟨k1, e1, _⟩ := h.tn
  obtain ⟨k2, e2, _⟩ := h.rd
  exact ne_of e1 e2 fun z => nomatch z
theorem Ask.kp {H H' : Hp} {a tr r : Addr} {ts : List Str} {n : Nat} (h : Ask H a tr r ts n) (k : Kp [r] H H') (hr : Rds H' r) : Ask H' a tr r ts n :=
  ⟨h.an.kp k (by simpa using h.ne), h.tn.kp k (by simpa using h.tr_ne), hr, h.ne⟩
theorem Ask.same {H H' : Hp} {a tr r : Addr} {ts : List Str} {n : Nat} (h : Ask H a tr r ts n) (s : Same H H') : Ask H' a tr r ts n :=
  h.kp (.same s) (h.rd.kp (ms := []) (.same s) (by simp))
theorem Ask.new {H : Hp} {a tr r b : Addr} {ts : List Str} {n : Nat} (h : Ask H a tr r ts n) (e : H b = none) (o : HO) : Ask (upd H b o) a tr r ts n := h.same (same_new e o)
theorem no_eq {w x : Str} (h : w ≠ x) : ¬ decide (V.str w = V.str x) = true := fun z => h (by have := of_decide_eq_true z; cases this; rfl)
theorem sm_clip (x : Int) : Sm (if (if x < 1000000000 then x else 1000000000) > -1000000000 then (if x < 1000000000 then x else 1000000000) else -1000000000) := by
  unfold Sm
  split <;> split <;> omega

section
variable {P : Program} {w : World} {K : PySem.W.Frag} {mg : Str → Option Value} {base : Heap} {f : Addr} {fd : FuncData} {k : Nat}
def spReck (n : Nat) : Sp := fun vs H Q _ => ∃ (v : V) (a tr r : Addr) (ts : List Str) (N m : Nat) (d : D), vs = [v, .ref a, .ref tr, .ref r] ∧ m < n ∧ Ask H a tr r ts N ∧ Rk ts m d ∧ Dat H v d ∧
  ∀ i H', Sm i → Kp [r] H H' → Rds H' r → Q (.int i) H'
theorem sc_law_reckoned : FnScope ["_law_one", "_law_answers_here", "_law_turns", "_law_reads", "_law_word", "_law_first", "_law_second", "_law_found"] ["_law_one", "_law_answers_here", "_law_turns", "_law_reads"] (defScope (Vh.top 20)) := ⟨rfl, rfl, rfl, by decide +kernel, rfl, by decide +kernel, by decide +kernel⟩
theorem ok_reck {n : Nat} (F : Fun K "_law_reckoned" "_law_reckoned" (Vh.top 20) f fd) (B : Blt mg) (C_law_reckoned : Cl P w K mg base k "_law_reckoned" (spReck n)) :
    FnOk P w K mg base CX0 (k + 1) f fd ["_law_one", "_law_answers_here", "_law_turns", "_law_reads"] (spReck (n + 1)) := by
  refine F.ok sc_law_reckoned (fun vs H Q E h => ?_) (fun cdv A outer s H vs Q E hr h => ?_)
  · obtain ⟨v, _, _, _, _, _, _, _, rfl, _⟩ := h
    rfl
  obtain ⟨v, a, tr, r, ts, N, m, d, rfl, hm, A0, hk, hd, q⟩ := h
  refine ⟨_, (pss_cons (ps_set (i := 4) sc_law_reckoned.nd rfl (Or.inl rfl) (pe_ix ix_tup (pv 0) pe_int (fun _ _ => rfl)))
  (pss_cons (ps_if (pt_cmpR op_eq (pv 4) pe_str (nomark _)) (pss_one (ps_ret (pe_ix ix_tup (pv 0) pe_int (fun _ _ => rfl)))) pss_nil)
  (pss_cons (ps_if (pt_cmpR op_eq (pv 4) pe_str (nomark _)) (pss_one (ps_ret (pe_dget (hu_of hr) (pv 2) (pe_ix ix_tup (pv 0) pe_int (fun _ _ => rfl)) (fun _ _ => rfl)))) pss_nil)
  (pss_cons (ps_if (pt_cmpR op_in_seq (pv 4) (pe_tup (pa_cons pe_str (pa_cons pe_str (pa_cons pe_str pa_nil)))) (by rfl)) (pss_cons (ps_dput (hu_of hr) (pv 3) (pe_tup (pa_cons (pv 4) (pa_cons (pe_ix ix_tup (pv 0) pe_int (fun _ _ => rfl)) pa_nil))) (pe_dget2 (hu_of hr) (pv 1) (pe_tup (pa_cons (pv 4) (pa_cons (pe_ix ix_tup (pv 0) pe_int (fun _ _ => rfl)) pa_nil))) pe_int ⟨by rfl, by rfl, by rfl, by rfl⟩) rfl)
  (pss_one (ps_ret (pe_dget (hu_of hr) (pv 3) (pe_tup (pa_cons (pv 4) (pa_cons (pe_ix ix_tup (pv 0) pe_int (fun _ _ => rfl)) pa_nil))) (fun _ _ => rfl))))) pss_nil)
  (pss_cons (ps_set (i := 5) sc_law_reckoned.nd rfl (Or.inl rfl) (pe_cl C_law_reckoned hr (by rfl) (pa_cons (pe_ix ix_tup (pv 0) pe_int (fun _ _ => rfl)) (pa_cons (pv 1) (pa_cons (pv 2) (pa_cons (pv 3) pa_nil))))))
  (pss_cons (ps_if (pt_cmpR op_eq (pv 4) pe_str (nomark _)) (pss_one (ps_ret (pe_cl C_law_reckoned hr (by rfl) (pa_cons (pe_ix ix_tup (pv 0) (pe_op op_add pe_int (pe_callTy call_int1 (by rfl) B.int_ (by decide +kernel) (pa_cons (pe_cmpR op_eq (pv 5) pe_int (nomark _)) pa_nil))) (fun _ _ => rfl)) (pa_cons (pv 1) (pa_cons (pv 2) (pa_cons (pv 3) pa_nil))))))) pss_nil)
  (pss_cons (ps_set (i := 6) sc_law_reckoned.nd rfl (Or.inl rfl) (pe_cl C_law_reckoned hr (by rfl) (pa_cons (pe_ix ix_tup (pv 0) pe_int (fun _ _ => rfl)) (pa_cons (pv 1) (pa_cons (pv 2) (pa_cons (pv 3) pa_nil))))))
  (pss_cons (ps_if (pt_cmpR op_eq (pv 4) pe_str (nomark _)) (pss_one (ps_ret (pe_callTy call_int1 (by rfl) B.int_ (by decide +kernel) (pa_cons (pe_cmpR op_lt (pv 5) (pv 6) (nomark _)) pa_nil)))) pss_nil)
  (pss_cons (ps_set (i := 7) sc_law_reckoned.nd rfl (Or.inl rfl) (pe_op op_add (pv 5) (pv 6)))
  (pss_cut (ps_if (pt_cmpR op_eq (pv 4) pe_str (nomark _)) (pss_one (ps_set (i := 7) sc_law_reckoned.nd rfl (Or.inl rfl) (pe_op op_mul (pv 5) (pv 6)))) pss_nil)
  (pss_one (ps_ret (pe_callB (call_max2 rfl) (by rfl) B.max_ (by decide +kernel) (pa_cons (pe_op op_sub pe_int (pe_op op_pow pe_int pe_int)) (pa_cons (pe_callB (call_min2 rfl) (by rfl) B.min_ (by decide +kernel) (pa_cons (pe_op op_pow pe_int pe_int) (pa_cons (pv 7) pa_nil))) pa_nil))))))))))))))), ?_⟩
  have fin2 : ∀ (i j : Int) (Q' : Prop), True := fun _ _ _ => True.intro
  cases hk with
  | @num _ i hi =>
    obtain ⟨b, x1, x2, rfl, eb, d1, d2⟩ := hd.two
    obtain rfl := d1.str_inv
    obtain rfl := d2.int_inv
    refine ⟨_, rfl, b, _, _, _, rfl, rfl, .inl eb, rfl, ?_⟩
    refine ⟨_, rfl, rfl, _, rfl, ?_⟩
    refine ite2 (fun _ => ?_) (fun z => absurd (by decide) z)
    exact ⟨_, rfl, b, _, _, _, rfl, rfl, .inl eb, rfl, q _ _ hi .refl A0.rd⟩
  | @turn _ x hx =>
    obtain ⟨b, x1, x2, rfl, eb, d1, d2⟩ := hd.two
    obtain rfl := d1.str_inv
    obtain rfl := d2.str_inv
    refine ⟨_, rfl, b, _, _, _, rfl, rfl, .inl eb, rfl, ?_⟩
    refine ⟨_, rfl, rfl, _, rfl, ?_⟩
    refine ite2 (fun z => absurd z (no_eq (by decide))) (fun _ => ?_)
    refine ⟨_, rfl, rfl, _, rfl, ?_⟩
    refine ite2 (fun _ => ?_) (fun z => absurd (by decide) z)
    obtain ⟨kvs, et, _, h2⟩ := A0.tn
    obtain ⟨i, hi, si⟩ := h2 _ hx
    refine ⟨_, rfl, _, rfl, b, _, _, _, rfl, rfl, .inl eb, rfl, tr, _, rfl, ?_, q _ _ si .refl A0.rd⟩
    rw [← hi]
    exact DGet.k (k := Sum.inr _) et
  | @ask _ wd x hw hp =>
    obtain ⟨b, x1, x2, rfl, eb, d1, d2⟩ := hd.two
    obtain rfl := d1.str_inv
    obtain rfl := d2.str_inv
    have hn : wd ≠ "num" ∧ wd ≠ "turn" ∧ inV (V.str wd) [V.str "take", .str "box", .str "down"] = true := by rcases hw with rfl | rfl | rfl <;> exact ⟨by decide, by decide, by decide⟩
    refine ⟨_, rfl, b, _, _, _, rfl, rfl, .inl eb, rfl, ?_⟩
    refine ⟨_, rfl, rfl, _, rfl, ?_⟩
    refine ite2 (fun z => absurd z (no_eq hn.1)) (fun _ => ?_)
    refine ⟨_, rfl, rfl, _, rfl, ?_⟩
    refine ite2 (fun z => absurd z (no_eq hn.2.1)) (fun _ => ?_)
    refine ⟨_, rfl, szb, fun u hu => ⟨u, _, rfl, .inr (.inl (.inl upd_same)), rfl, rfl, _, rfl, ?_⟩⟩
    refine ite2 (fun _ => ?_) (fun z => absurd hn.2.2 z)
    have A1 := A0.new hu (.tup [.str "take", .str "box", .str "down"])
    have e1 := Same.rd (same_new hu (.tup [.str "take", .str "box", .str "down"])) eb
    have k1 : Kp [r] H (upd H u (.tup [.str "take", .str "box", .str "down"])) := .new hu
    generalize upd H u (.tup [.str "take", .str "box", .str "down"]) = H1 at *
    obtain ⟨akvs, ea, ia⟩ := id A1.an
    refine ⟨_, rfl, a, rfl, .inr ⟨_, .inl ea⟩, _, rfl, _, rfl, b, _, _, _, rfl, rfl, .inl e1, rfl, szb, fun u2 hu2 => ?_⟩
    have s2 : Same H1 (upd H1 u2 (.tup [.str wd, .str x])) := same_new hu2 _
    refine ⟨_, DGet.t (k := [.inr wd, .inr x]) (s2 _ _ ea) upd_same, ?_⟩
    obtain ⟨i, ei, si⟩ : ∃ i, ((valV akvs [Sum.inr wd, Sum.inr x]).getD (.int 0)) = .int i ∧ Sm i := by
      cases e : valV akvs [Sum.inr wd, Sum.inr x] with
      | none => exact ⟨0, rfl, by unfold Sm; decide⟩
      | some v =>
        obtain ⟨i, rfl, si⟩ := ia.at e
        exact ⟨i, rfl, si⟩
    rw [ei]
    refine ⟨_, rfl, _, rfl, _, rfl, b, _, _, _, rfl, rfl, .inl (Same.rd s2 e1), rfl, szb, fun u3 hu3 => ?_⟩
    have A3 := (A1.same s2).new hu3 (.tup [.str wd, .str x])
    have e3 := Same.rd (same_new hu3 (.tup [.str wd, .str x])) (Same.rd s2 e1)
    have k3 : Kp [r] H (upd (upd H1 u2 (.tup [.str wd, .str x])) u3 (.tup [.str wd, .str x])) := k1.trans ((Kp.same s2).trans (.new hu3))
    have eu3 : (upd (upd H1 u2 (.tup [.str wd, .str x])) u3 (.tup [.str wd, .str x])) u3 = some (.tup [.str wd, .str x]) := upd_same
    generalize upd (upd H1 u2 (.tup [.str wd, .str x])) u3 (.tup [.str wd, .str x]) = H3 at *
    obtain ⟨rkvs, er, ir⟩ := id A3.rd
    refine ⟨r, _, rfl, DPut.t (k := [.inr wd, .inr x]) er eu3 (Nat.lt_of_le_of_lt ir.len (by decide)), ?_⟩
    have k4 : Kp [r] H3 (upd H3 r (.dT (putK rkvs [Sum.inr wd, Sum.inr x] (.int i)))) := .put (by simp) er (fun _ z => nomatch z) fun _ _ z => nomatch z
    have R4 : Rds (upd H3 r (.dT (putK rkvs [Sum.inr wd, Sum.inr x] (.int i)))) r := ⟨_, upd_same, ir.put (askKeys_mem hw hp) si⟩
    have er4 : (upd H3 r (.dT (putK rkvs [Sum.inr wd, Sum.inr x] (.int i)))) r = some (.dT (putK rkvs [Sum.inr wd, Sum.inr x] (.int i))) := upd_same
    generalize upd H3 r (.dT (putK rkvs [Sum.inr wd, Sum.inr x] (.int i))) = H4 at *
    refine ⟨_, rfl, _, rfl, _, rfl, b, _, _, _, rfl, rfl, .inl (k4.tup _ _ e3), rfl, szb, fun u5 hu5 => ?_⟩
    have s5 : Same H4 (upd H4 u5 (.tup [.str wd, .str x])) := same_new hu5 _
    refine ⟨r, .int i, rfl, ?_, q i _ si (k3.trans (k4.trans (.same s5))) (R4.kp (ms := []) (.same s5) (by simp))⟩
    have := DGet.t (k := [.inr wd, .inr x]) (s5 _ _ er4) (upd_same (a := u5))
    rw [valV_put, if_pos rfl] at this
    exact this
  | @bin m wd r1 r2 hw h1 h2 =>
    obtain ⟨b, x1, x2, x3, rfl, eb, d1, d2, d3⟩ := hd.three
    obtain rfl := d1.str_inv
    have hn : wd ≠ "num" ∧ wd ≠ "turn" ∧ wd ≠ "pick" ∧ ¬ inV (V.str wd) [V.str "take", .str "box", .str "down"] = true := by rcases hw with rfl | rfl | rfl <;> exact ⟨by decide, by decide, by decide, by decide⟩
    refine ⟨_, rfl, b, _, _, _, rfl, rfl, .inl eb, rfl, ?_⟩
    refine ⟨_, rfl, rfl, _, rfl, ?_⟩
    refine ite2 (fun z => absurd z (no_eq hn.1)) (fun _ => ?_)
    refine ⟨_, rfl, rfl, _, rfl, ?_⟩
    refine ite2 (fun z => absurd z (no_eq hn.2.1)) (fun _ => ?_)
    refine ⟨_, rfl, szb, fun u hu => ⟨u, _, rfl, .inr (.inl (.inl upd_same)), rfl, rfl, _, rfl, ?_⟩⟩
    refine ite2 (fun z => absurd z hn.2.2.2) (fun _ => ?_)
    have A1 := A0.new hu (.tup [.str "take", .str "box", .str "down"])
    have s1 := same_new hu (.tup [.str "take", .str "box", .str "down"])
    have e1 := Same.rd s1 eb
    have k1 : Kp [r] H (upd H u (.tup [.str "take", .str "box", .str "down"])) := .new hu
    generalize upd H u (.tup [.str "take", .str "box", .str "down"]) = H1 at *
    refine ⟨_, rfl, b, _, _, _, rfl, rfl, .inl e1, rfl, _, rfl, _, rfl, _, rfl, x2, a, tr, r, ts, N, m, r1, rfl, by omega, A1, h1, Same.dat s1 d2, fun i H2 si k2 R2 => ?_⟩
    have A2 := A1.kp k2 R2
    have e2 := k2.tup _ _ e1
    refine ⟨_, rfl, rfl, _, rfl, ?_⟩
    refine ite2 (fun z => absurd z (no_eq hn.2.2.1)) (fun _ => ?_)
    refine ⟨_, rfl, b, _, _, _, rfl, rfl, .inl e2, rfl, _, rfl, _, rfl, _, rfl, x3, a, tr, r, ts, N, m, r2, rfl, by omega, A2, h2, k2.dat (Same.dat s1 d3), fun j H3 sj k3 R3 => ?_⟩
    have kk : Kp [r] H H3 := k1.trans (k2.trans k3)
    refine ⟨_, rfl, rfl, _, rfl, ?_⟩
    refine ite2 (fun _ => ?_) (fun _ => ?_)
    · refine ⟨_, rfl, _, rfl, _, _, rfl, rfl, .inr ⟨_, rfl, q _ _ ?_ kk R3⟩⟩
      unfold Sm
      split <;> decide
    refine ⟨_, rfl, _, rfl, _, _, rfl, rfl, ?_⟩
    refine ⟨fun σ' H' => ∃ x, σ' = [some (.ref b), some (.ref a), some (.ref tr), some (.ref r), some (.str wd), some (.int i), some (.int j), some (.int x)] ∧ H3 = H', ?_, ?_⟩
    · refine ⟨_, rfl, rfl, _, rfl, ?_⟩
      refine ite2 (fun _ => ?_) (fun _ => ⟨_, rfl, rfl⟩)
      exact ⟨_, rfl, _, rfl, _, _, rfl, rfl, .inl (by unfold Sm at si; constructor <;> omega), _, rfl, rfl⟩
    · rintro _ _ ⟨x, rfl, rfl⟩
      refine ⟨_, _, rfl, rfl, ⟨by decide, by decide, by decide⟩, _, _, rfl, rfl, _, _, rfl, rfl, ⟨by decide, by decide, by decide⟩, _, rfl, _, _, rfl, _, _, rfl, q _ _ ?_ kk R3⟩
      exact sm_clip x
  | @pick m r1 r2 r3 h1 h2 h3 =>
    obtain ⟨b, x1, x2, x3, x4, rfl, eb, d1, d2, d3, d4⟩ := hd.four
    obtain rfl := d1.str_inv
    refine ⟨_, rfl, b, _, _, _, rfl, rfl, .inl eb, rfl, ?_⟩
    refine ⟨_, rfl, rfl, _, rfl, ?_⟩
    refine ite2 (fun z => absurd z (no_eq (by decide))) (fun _ => ?_)
    refine ⟨_, rfl, rfl, _, rfl, ?_⟩
    refine ite2 (fun z => absurd z (no_eq (by decide))) (fun _ => ?_)
    refine ⟨_, rfl, szb, fun u hu => ⟨u, _, rfl, .inr (.inl (.inl upd_same)), rfl, rfl, _, rfl, ?_⟩⟩
    refine ite2 (fun z => absurd z (by decide)) (fun _ => ?_)
    have A1 := A0.new hu (.tup [.str "take", .str "box", .str "down"])
    have s1 := same_new hu (.tup [.str "take", .str "box", .str "down"])
    have e1 := Same.rd s1 eb
    have k1 : Kp [r] H (upd H u (.tup [.str "take", .str "box", .str "down"])) := .new hu
    generalize upd H u (.tup [.str "take", .str "box", .str "down"]) = H1 at *
    refine ⟨_, rfl, b, _, _, _, rfl, rfl, .inl e1, rfl, _, rfl, _, rfl, _, rfl, x2, a, tr, r, ts, N, m, r1, rfl, by omega, A1, h1, Same.dat s1 d2, fun i H2 si k2 R2 => ?_⟩
    have A2 := A1.kp k2 R2
    have e2 := k2.tup _ _ e1
    refine ⟨_, rfl, rfl, _, rfl, ?_⟩
    refine ite2 (fun _ => ?_) (fun z => absurd (by decide) z)
    obtain ⟨y, rd, hj, dj, hrd⟩ : ∃ (y : V) (rd : D), atI [V.str "pick", x2, x3, x4] (2 + (if decide (V.int i = V.int 0) = true then 1 else 0) : Int) = some y ∧ Dat H2 y rd ∧ Rk ts m rd := by
      split
      · exact ⟨x4, r3, rfl, k2.dat (Same.dat s1 d4), h3⟩
      · exact ⟨x3, r2, rfl, k2.dat (Same.dat s1 d3), h2⟩
    refine ⟨_, rfl, _, rfl, rfl, .inr ⟨_, rfl, _, _, rfl, rfl, ?_⟩⟩
    refine ⟨b, _, _, _, rfl, rfl, .inl e2, hj, _, rfl, _, rfl, _, rfl, y, a, tr, r, ts, N, m, rd, rfl, by omega, A2, hrd, dj, fun j2 H3 sj k3 R3 => ?_⟩
    exact q j2 H3 sj (k1.trans (k2.trans k3)) R3
end
end Vw

set_option maxHeartbeats 4000000
/-! numbers, things -/
namespace Vw
open PySem PySem.Spec PyProof.Rows L2
open C8 (pss_cut tCut)

theorem Rds.nl {H : Hp} {r A : Addr} {xs : List V} (R : Rds H r) (e : H A = some (.lst xs)) : A ≠ r := by
  obtain ⟨kvs, er, _⟩ := R
  exact ne_of e er fun z => nomatch z
theorem Rds.nt {H : Hp} {r A : Addr} {xs : List V} (R : Rds H r) (e : H A = some (.tup xs)) : A ≠ r := by
  obtain ⟨kvs, er, _⟩ := R
  exact ne_of e er fun z => nomatch z
theorem Rds.new {H : Hp} {r A : Addr} (R : Rds H r) (e : H A = none) : A ≠ r := by
  obtain ⟨kvs, er, _⟩ := R
  exact (ne_of_none er e).symm
theorem Rds.same {H H' : Hp} {r : Addr} (R : Rds H r) (s : Same H H') : Rds H' r := R.kp (ms := []) (.same s) (by simp)
theorem Rds.put {H : Hp} {r A : Addr} {xs : List V} (R : Rds H r) (e : H A = some (.lst xs)) (o : HO) : Rds (upd H A o) r := R.kp (.lst e o) (by simpa using (R.nl e).symm)
theorem Ask.lst {H : Hp} {a tr r A : Addr} {ts : List Str} {n : Nat} {xs : List V} (h : Ask H a tr r ts n) (e : H A = some (.lst xs)) (o : HO) : Ask (upd H A o) a tr r ts n := by
  have k := Kp.lst e o
  have h1 : A ≠ a := by obtain ⟨_, e1, _⟩ := h.an; exact ne_of e e1 fun z => nomatch z
  have h2 : A ≠ tr := by obtain ⟨_, e1, _⟩ := h.tn; exact ne_of e e1 fun z => nomatch z
  exact ⟨h.an.kp k (by simpa using h1.symm), h.tn.kp k (by simpa using h2.symm), h.rd.put e o, h.ne⟩

/-- a list at A, new since H2, filled with data that are φ, while the dict r is written -/
def GR (r : Addr) (H2 : Hp) (A : Addr) (φ : D → Prop) (i : Nat) (H3 : Hp) : Prop := Kp [r] H2 H3 ∧ Rds H3 r ∧ ∃ xs ds, H3 A = some (.lst xs) ∧ Dats H3 xs ds ∧ ds.length = i ∧ ∀ d ∈ ds, φ d
theorem GR.start {r A : Addr} {H2 : Hp} {φ : D → Prop} (hA : H2 A = none) (T : Rds H2 r) : GR r H2 A φ 0 (upd H2 A (.lst [])) :=
  ⟨.new hA, T.same (same_new hA _), [], [], upd_same, .nil, rfl, fun _ h => nomatch h⟩
theorem GR.kp {r A : Addr} {H2 H3 H4 : Hp} {φ : D → Prop} {i : Nat} (g : GR r H2 A φ i H3) (hA : H2 A = none) (T2 : Rds H2 r) (k4 : Kp [r] H3 H4) (T4 : Rds H4 r) : GR r H2 A φ i H4 := by
  obtain ⟨k3, T3, xs, ds, e3, d3, hl, h3⟩ := g
  exact ⟨k3.trans k4, T4, xs, ds, k4.at1 (T2.new hA) e3, k4.dats d3, hl, h3⟩
theorem GR.push {r A : Addr} {H2 H3 H4 : Hp} {φ : D → Prop} {i : Nat} {v : V} {d : D} (g : GR r H2 A φ i H3) (hA : H2 A = none) (T2 : Rds H2 r) (hi : i < 1000000) (k4 : Kp [r] H3 H4) (T4 : Rds H4 r) (hv : Dat H4 v d) (hd : φ d) :
    ∃ acc, H4 A = some (.lst acc) ∧ acc.length < sizeLine ∧ GR r H2 A φ (i + 1) (upd H4 A (.lst (acc ++ [v]))) := by
  obtain ⟨k3, T3, xs, ds, e3, d3, hl, h3⟩ := g
  have e4 : H4 A = some (.lst xs) := k4.at1 (T2.new hA) e3
  refine ⟨xs, e4, ?_, (k3.trans k4).putN hA, T4.put e4 _, xs ++ [v], ds ++ [d], upd_same, ((k4.dats d3).snoc hv).lst e4 _, by simp [hl], fun d' hd' => ?_⟩
  · rw [d3.len, hl]
    exact Nat.lt_trans hi (by decide)
  · rcases List.mem_append.mp hd' with z | z
    · exact h3 d' z
    · rw [List.mem_singleton.mp z]; exact hd
/-- a pair (text, int), as sorted wants it -/
def SI (H : Hp) (x : V) : Prop := ∃ t y i, x = V.ref t ∧ H t = some (.tup [.str y, .int i]) ∧ Sm i
theorem SI.kp {H H' : Hp} {r : Addr} {x : V} (h : SI H x) (R : Rds H r) (k : Kp [r] H H') : SI H' x := by
  obtain ⟨t, y, i, rfl, e, s⟩ := h
  exact ⟨t, y, i, rfl, k.at1 (R.nt e) e, s⟩
theorem SI.same {H H' : Hp} {x : V} (h : SI H x) (s : Same H H') : SI H' x := by
  obtain ⟨t, y, i, rfl, e, q⟩ := h
  exact ⟨t, y, i, rfl, s _ _ e, q⟩
theorem SI.lst {H : Hp} {A : Addr} {x : V} {xs : List V} (h : SI H x) (e : H A = some (.lst xs)) (o : HO) : SI (upd H A o) x := by
  obtain ⟨t, y, i, rfl, et, q⟩ := h
  exact ⟨t, y, i, rfl, by rw [upd_ne (ne_of et e fun z => nomatch z)]; exact et, q⟩
theorem SI.dats {H : Hp} : ∀ {ys : List V}, (∀ y ∈ ys, SI H y) → ∃ es, Dats H ys es ∧ (∀ e ∈ es, PrI e) ∧ es.length = ys.length
  | [], _ => ⟨[], .nil, (fun _ h => nomatch h), rfl⟩
  | y :: ys, h => by
    obtain ⟨es, d, q, l⟩ := SI.dats (ys := ys) fun z m => h z (List.mem_cons_of_mem _ m)
    obtain ⟨t, x, i, rfl, e, s⟩ := h y (List.mem_cons_self ..)
    refine ⟨.tup [.str x, .int i] :: es, .cons (.tup (.inl e) (.cons .str (.cons .int .nil))) d, fun z m => ?_, by simp [l]⟩
    rcases List.mem_cons.mp m with rfl | m
    · exact ⟨x, i, rfl, s⟩
    · exact q z m

section
variable {P : Program} {w : World} {K : PySem.W.Frag} {mg : Str → Option Value} {base : Heap} {f : Addr} {fd : FuncData} {k : Nat}
def spNums : Sp := fun vs H Q _ => ∃ (v : V) (a tr r : Addr) (ts : List Str) (N : Nat) (ds : List D), vs = [v, .ref a, .ref tr, .ref r] ∧ Ask H a tr r ts N ∧ (∀ d ∈ ds, PrOk ts d) ∧ ds.length ≤ 100 ∧ Dat H v (.tup ds) ∧
  ∀ v es H', (∀ e ∈ es, PrI e) → es.length ≤ 100 → Dat H' v (.tup es) → Kp [r] H H' → Rds H' r → Q v H'
theorem sc_law_numbers : FnScope ["_law_pairs_here", "_law_answers_here", "_law_turns", "_law_reads", "_law_name", "_law_one"] ["_law_pairs_here", "_law_answers_here", "_law_turns", "_law_reads"] (defScope (Vh.top 21)) := ⟨rfl, rfl, rfl, by decide +kernel, rfl, by decide +kernel, by decide +kernel⟩
theorem ok_numbers (F : Fun K "_law_numbers" "_law_numbers" (Vh.top 21) f fd) (B : Blt mg) (C_law_reckoned : Cl P w K mg base k "_law_reckoned" (spReck 3)) :
    FnOk P w K mg base CX0 (k + 1) f fd ["_law_pairs_here", "_law_answers_here", "_law_turns", "_law_reads"] spNums := by
  refine F.ok sc_law_numbers (fun vs H Q E h => ?_) (fun cdv A outer s H vs Q E hr h => ?_)
  · obtain ⟨v, _, _, _, _, _, _, rfl, _⟩ := h
    rfl
  obtain ⟨v, a, tr, r, ts, N, ds, rfl, A0, hds, hl, hd, q⟩ := h
  obtain ⟨b, xs, rfl, eb, db⟩ := hd.tup_inv
  refine ⟨_, (pss_one (ps_ret (pe_callTy call_tuple_of (by rfl) B.tuple_ (by decide +kernel) (pa_cons (pe_callB cr_sortedSI (by rfl) B.sorted_ (by decide +kernel) (pa_cons (pe_lc (own := [("_law_name", 4), ("_law_one", 5)]) (g := (gTup K 2 (gCons (gName 4) (gCons (gName 5) gNil)))) (by rfl) sc_law_numbers.nd (pi_tup (pv 0)) (blkOk_by (own := [("_law_name", 4), ("_law_one", 5)]) (N := ["_law_pairs_here", "_law_answers_here", "_law_turns", "_law_reads", "_law_name", "_law_one"]) (sc := defScope (Vh.top 21)) (by decide +kernel)) (fun _ _ _ _ _ => (pg_tup rfl (pgs_cons (pg_name (i := 4) sc_law_numbers.nd rfl (.inl rfl)) (pgs_cons (pg_name (i := 5) sc_law_numbers.nd rfl (.inl rfl)) pgs_nil)))) (fun _ _ _ _ _ => pts_nil) (fun _ _ _ _ _ => (pe_tup (pa_cons (pv 4) (pa_cons (pe_cl C_law_reckoned hr (by rfl) (pa_cons (pv 5) (pa_cons (pv 1) (pa_cons (pv 2) (pa_cons (pv 3) pa_nil))))) pa_nil))))) pa_nil)) pa_nil)))), ?_⟩
  refine ⟨_, rfl, b, rfl, ⟨_, .inl eb⟩, fun A hA => ?_⟩
  have At : A ≠ r := A0.rd.new hA
  refine lc_tup (K := K) (a := b) (xs := xs) (fun i H3 => Kp [r] H H3 ∧ Rds H3 r ∧ ∃ ys, H3 A = some (.lst ys) ∧ ys.length = i ∧ ∀ y ∈ ys, SI H3 y) ⟨.new hA, A0.rd.same (same_new hA _), [], upd_same, rfl, fun _ h => nomatch h⟩
    (fun i H3 _ g => .inl (g.1.tup _ _ eb)) (fun i x H3 hx g => ?_) fun H3 g => ?_
  · obtain ⟨k3, R3, ys, e3, l3, s3⟩ := g
    obtain ⟨d, hd1, hd2⟩ := db.at hx
    obtain ⟨nm, rk, rfl, hrk⟩ := hds d (List.mem_of_getElem? hd1)
    obtain ⟨c, y1, y2, rfl, ec, dy1, dy2⟩ := (k3.dat hd2).two
    obtain rfl := dy1.str_inv
    refine ⟨c, _, rfl, .inl ec, rfl, _, _, rfl, _, _, rfl, rfl, ?_⟩
    refine ⟨rfl, ?_⟩
    refine ⟨_, rfl, _, rfl, _, rfl, _, rfl, _, rfl, y2, a, tr, r, ts, N, 2, rk, rfl, by decide, A0.kp k3 R3, hrk, dy2, fun i2 H4 si k4 R4 => ?_⟩
    refine ⟨szb, fun u hu => ?_⟩
    have e4 : (upd H4 u (.tup [.str nm, .int i2])) A = some (.lst ys) := same_new hu _ _ _ (k4.at1 At e3)
    refine ⟨ys, e4, ?_, (k3.trans (k4.trans (.new hu))).putN hA, (R4.same (same_new hu _)).put e4 _, ys ++ [.ref u], upd_same, by simp [l3], fun y m => ?_⟩
    · have := (List.getElem?_eq_some_iff.mp hx).1
      rw [db.len] at this
      rw [l3]; exact small1000 (by omega)
    · rcases List.mem_append.mp m with m | m
      · exact (((s3 y m).kp R3 k4).same (same_new hu _)).lst e4 _
      · rw [List.mem_singleton.mp m]
        exact SI.lst ⟨u, nm, i2, rfl, upd_same, si⟩ e4 _
  · obtain ⟨k3, R3, ys, e3, l3, s3⟩ := g
    refine ⟨A, ys, rfl, .of e3, fun x m => let ⟨t, y, i, e1, e2, _⟩ := s3 x m; ⟨t, y, i, e1, e2⟩, fun zs p hp hpn => ?_⟩
    have s4 : ∀ z ∈ zs, SI (upd H3 p (.lst zs)) z := fun z m => (s3 z (hp.mem_iff.mp m)).same (same_new hpn _)
    obtain ⟨es, d5, q5, l5⟩ := SI.dats s4
    refine ⟨p, zs, rfl, .inl ⟨.of upd_same, fun x hx => ?_⟩⟩
    refine q _ es _ q5 ?_ (.made hx d5) (k3.trans ((Kp.new hpn).trans (.new hx))) ((R3.same (same_new hpn _)).same (same_new hx _))
    rw [l5, hp.length_eq, l3, db.len]
    exact hl

/-- a line that is a thing -/
inductive Lt (nms ts : List Str) : Nat → Nat → Nat → D → Prop
  | plain {n w c k sets hands row} {tag : Str} : (∀ d ∈ sets, PrOk ts d) → (∀ d ∈ hands, HdOk ts d) → sets.length ≤ 100 → hands.length ≤ 100 → Lns nms ts n w c row → Lt nms ts (n + 1) w (1 + c) (.tup [.str "plain", k, .str tag, .tup sets, .tup hands, .tup row])
  | part {n k gives} {name : Str} : name ∈ nms → (∀ d ∈ gives, PrOk ts d) → gives.length ≤ 100 → Lt nms ts n 1 1 (.tup [.str "part", k, .str name, .tup gives])
  | give {n w c k r row} {a : Str} : Rk ts 2 r → Lns nms ts n w c row → Lt nms ts (n + 1) w (1 + c) (.tup [.str "give", k, .str a, r, .tup row])
/-- a row drawn of lines so deep -/
structure Rw (nms : List Str) (m w x : Nat) (r : R) : Prop where
  wf : r.Wf
  nm : r.Nm nms
  dep : r.dep ≤ m + 1
  np : r.np ≤ w
  sz : r.sz ≤ x
theorem Dat.five {H : Hp} {v : V} {d e f g i : D} (h : Dat H v (.tup [d, e, f, g, i])) : ∃ a x y z u t, v = .ref a ∧ Rd H a (.tup [x, y, z, u, t]) ∧ Dat H x d ∧ Dat H y e ∧ Dat H z f ∧ Dat H u g ∧ Dat H t i := by
  obtain ⟨a, xs, rfl, ea, k⟩ := h.tup_inv
  obtain ⟨x, xs, rfl, p, k⟩ := k.cons_inv
  obtain ⟨y, xs, rfl, q, k⟩ := k.cons_inv
  obtain ⟨z, xs, rfl, r, k⟩ := k.cons_inv
  obtain ⟨u, xs, rfl, s, k⟩ := k.cons_inv
  obtain ⟨t, xs, rfl, s2, k⟩ := k.cons_inv
  obtain rfl := k.nil_inv
  exact ⟨a, x, y, z, u, t, rfl, ea, p, q, r, s, s2⟩
theorem Dat.six {H : Hp} {v : V} {d e f g i j : D} (h : Dat H v (.tup [d, e, f, g, i, j])) : ∃ a x y z u t o, v = .ref a ∧ Rd H a (.tup [x, y, z, u, t, o]) ∧ Dat H x d ∧ Dat H y e ∧ Dat H z f ∧ Dat H u g ∧ Dat H t i ∧ Dat H o j := by
  obtain ⟨a, xs, rfl, ea, k⟩ := h.tup_inv
  obtain ⟨x, xs, rfl, p, k⟩ := k.cons_inv
  obtain ⟨y, xs, rfl, q, k⟩ := k.cons_inv
  obtain ⟨z, xs, rfl, r, k⟩ := k.cons_inv
  obtain ⟨u, xs, rfl, s, k⟩ := k.cons_inv
  obtain ⟨t, xs, rfl, s2, k⟩ := k.cons_inv
  obtain ⟨o, xs, rfl, s3, k⟩ := k.cons_inv
  obtain rfl := k.nil_inv
  exact ⟨a, x, y, z, u, t, o, rfl, ea, p, q, r, s, s2, s3⟩
def spRow (n : Nat) : Sp := fun vs H Q _ => ∃ (v : V) (a tr r : Addr) (ts nms : List Str) (N m w x : Nat) (ls : List D), vs = [v, .ref a, .ref tr, .ref r] ∧ m < n ∧ N + m ≤ 100 ∧ x ≤ 1000 ∧ Ask H a tr r ts N ∧ Lns nms ts m w x ls ∧ Dat H v (.tup ls) ∧
  ∀ v' rr H', Rw nms m w x rr → Dat H' v' (.tup rr.D) → Kp [r] H H' → Rds H' r → Q v' H'
def spThing (n : Nat) : Sp := fun vs H Q _ => ∃ (v sv : V) (a tr r : Addr) (ts nms : List Str) (N m w x : Nat) (s : Spot) (d : D), vs = [v, sv, .ref a, .ref tr, .ref r] ∧ m < n ∧ N + m ≤ 100 ∧ x ≤ 1000 ∧ Ask H a tr r ts N ∧ Lt nms ts m w x d ∧ Dat H v d ∧ Dat H sv (spotD s) ∧
  ∀ v' d' rr H', Rw nms m w x rr → rr.D = [d'] → rr.spots = [s] → Dat H' v' d' → Kp [r] H H' → Rds H' r → Q v' H'
theorem sc_law_thing : FnScope ["_law_line_here", "_law_spot", "_law_answers_here", "_law_turns", "_law_reads", "_law_number_here", "_law_hands_here", "_law_event", "_law_rank", "_law_last", "_law_changes", "_law_some", "_law_sets", "_law_box", "_law_word", "_law_one"] ["_law_line_here", "_law_spot", "_law_answers_here", "_law_turns", "_law_reads"] (defScope (Vh.top 22)) := ⟨rfl, rfl, rfl, by decide +kernel, rfl, by decide +kernel, by decide +kernel⟩
theorem ok_thing {n : Nat} (F : Fun K "_law_thing" "_law_thing" (Vh.top 22) f fd) (B : Blt mg) (C_law_reckoned : Cl P w K mg base k "_law_reckoned" (spReck 3)) (C_law_numbers : Cl P w K mg base k "_law_numbers" spNums) (C_law_row : Cl P w K mg base k "_law_row" (spRow n)) :
    FnOk P w K mg base CX0 (k + 1) f fd ["_law_line_here", "_law_spot", "_law_answers_here", "_law_turns", "_law_reads"] (spThing (n + 1)) := by
  refine F.ok sc_law_thing (fun vs H Q E h => ?_) (fun cdv A outer s H vs Q E hr h => ?_)
  · obtain ⟨v, sv, _, _, _, _, _, _, _, _, _, _, _, rfl, _⟩ := h
    rfl
  obtain ⟨v, sv, a, tr, r, ts, nms, N, m, wd, x, sp, d, rfl, hm, hN, hx, A0, hl, hd, hs, q⟩ := h
  refine ⟨_, (pss_cons (ps_if (pt_cmpR op_eq (pe_ix ix_tup (pv 0) pe_int (fun _ _ => rfl)) pe_str (nomark _)) (pss_one (ps_ret (pe_tup (pa_cons pe_str (pa_cons (pv 1) (pa_cons (pe_ix ix_tup (pv 0) pe_int (fun _ _ => rfl)) (pa_cons (pe_cl C_law_numbers hr (by rfl) (pa_cons (pe_ix ix_tup (pv 0) pe_int (fun _ _ => rfl)) (pa_cons (pv 2) (pa_cons (pv 3) (pa_cons (pv 4) pa_nil))))) pa_nil))))))) pss_nil)
  (pss_cons (ps_if (pt_cmpR op_eq (pe_ix ix_tup (pv 0) pe_int (fun _ _ => rfl)) pe_str (nomark _)) (pss_cons (ps_set (i := 5) sc_law_thing.nd rfl (Or.inl rfl) (pe_cl C_law_reckoned hr (by rfl) (pa_cons (pe_ix ix_tup (pv 0) pe_int (fun _ _ => rfl)) (pa_cons (pv 2) (pa_cons (pv 3) (pa_cons (pv 4) pa_nil))))))
  (pss_one (ps_ret (pe_tup (pa_cons pe_str (pa_cons (pv 1) (pa_cons (pe_ix ix_tup (pv 0) pe_int (fun _ _ => rfl)) (pa_cons (pv 5) (pa_cons (pe_cl C_law_row hr (by rfl) (pa_cons (pe_ix ix_tup (pv 0) pe_int (fun _ _ => rfl)) (pa_cons (pv 2) (pa_cons (pv 3) (pa_cons (pv 4) pa_nil))))) pa_nil))))))))) pss_nil)
  (pss_cons (ps_set (i := 6) sc_law_thing.nd rfl (Or.inl rfl) (pe_lst pa_nil))
  (pss_cons (ps_for PassesOwn.never rfl (pi_tup (pe_ix ix_tup (pv 0) pe_int (fun _ _ => rfl))) (pg_tup rfl (pgs_cons (pg_name (i := 7) sc_law_thing.nd rfl (.inl rfl)) (pgs_cons (pg_name (i := 8) sc_law_thing.nd rfl (.inl rfl)) (pgs_cons (pg_name (i := 9) sc_law_thing.nd rfl (.inl rfl)) (pgs_cons (pg_name (i := 10) sc_law_thing.nd rfl (.inl rfl)) pgs_nil))))) (pss_cons (ps_setLc (i := 11) (own := [("_law_box", 13), ("_law_word", 14), ("_law_one", 15)]) (g := (gTup K 3 (gCons (gName 13) (gCons (gName 14) (gCons (gName 15) gNil))))) (by rfl) sc_law_thing.nd rfl rfl (sw_true rfl rfl rfl (by decide +kernel)) (pi_tup (pv 10)) (blkOk_by (own := [("_law_box", 13), ("_law_word", 14), ("_law_one", 15)]) (N := ["_law_line_here", "_law_spot", "_law_answers_here", "_law_turns", "_law_reads", "_law_number_here", "_law_hands_here", "_law_event", "_law_rank", "_law_last", "_law_changes", "_law_some", "_law_sets", "_law_box", "_law_word", "_law_one"]) (sc := defScope (Vh.top 22)) (by decide +kernel)) (fun _ _ _ _ _ => (pg_tup rfl (pgs_cons (pg_name (i := 13) sc_law_thing.nd rfl (.inl rfl)) (pgs_cons (pg_name (i := 14) sc_law_thing.nd rfl (.inl rfl)) (pgs_cons (pg_name (i := 15) sc_law_thing.nd rfl (.inl rfl)) pgs_nil))))) (fun _ _ _ _ _ => pts_nil) (fun _ _ _ _ _ => (pe_tup (pa_cons (pv 13) (pa_cons (pv 14) (pa_cons (pe_cl C_law_reckoned hr (by rfl) (pa_cons (pv 15) (pa_cons (pv 2) (pa_cons (pv 3) (pa_cons (pv 4) pa_nil))))) pa_nil))))))
  (pss_one (ps_expr (pe_bm PySem.F.plainAttrs_list PySem.F.slot_list_append PySem.F.type_list_append mt_append (pv 6) (pa_cons (pe_tup (pa_cons (pv 7) (pa_cons (pv 8) (pa_cons (pv 9) (pa_cons (pe_callTy call_tuple_of (by rfl) B.tuple_ (by decide +kernel) (pa_cons (pv 11) pa_nil)) pa_nil))))) pa_nil))))))
  (pss_cons (ps_set (i := 12) sc_law_thing.nd rfl (Or.inl rfl) (pe_cl C_law_numbers hr (by rfl) (pa_cons (pe_ix ix_tup (pv 0) pe_int (fun _ _ => rfl)) (pa_cons (pv 2) (pa_cons (pv 3) (pa_cons (pv 4) pa_nil))))))
  (pss_one (ps_ret (pe_tup (pa_cons pe_str (pa_cons (pv 1) (pa_cons (pe_ix ix_tup (pv 0) pe_int (fun _ _ => rfl)) (pa_cons (pv 12) (pa_cons (pe_callTy call_tuple_of (by rfl) B.tuple_ (by decide +kernel) (pa_cons (pv 6) pa_nil)) (pa_cons (pe_cl C_law_row hr (by rfl) (pa_cons (pe_ix ix_tup (pv 0) pe_int (fun _ _ => rfl)) (pa_cons (pv 2) (pa_cons (pv 3) (pa_cons (pv 4) pa_nil))))) pa_nil)))))))))))))), ?_⟩
  cases hl with
  | @part _ kd gives name hn hg hgl =>
    obtain ⟨b, x0, x1, x2, x3, rfl, eb, d0, d1, d2, d3⟩ := hd.four
    obtain rfl := d0.str_inv
    obtain rfl := d2.str_inv
    refine ⟨_, rfl, b, _, _, _, rfl, rfl, .inl eb, rfl, rfl, _, rfl, ?_⟩
    refine ite2 (fun _ => ?_) (fun z => absurd (by decide) z)
    refine ⟨_, rfl, _, rfl, b, _, _, _, rfl, rfl, .inl eb, rfl, _, rfl, b, _, _, _, rfl, rfl, .inl eb, rfl, _, rfl, _, rfl, _, rfl, x3, a, tr, r, ts, N, gives, rfl, A0, hg, hgl, d3, fun v' es H1 hes hel dv k1 R1 => ?_⟩
    refine ⟨szb, fun u hu => ?_⟩
    refine q _ (.tup [.str "part", spotD sp, .str name, .tup es]) (.part sp name es .nil .nil) _ ⟨⟨(fun z => nomatch z), trivial, trivial⟩, ⟨hn, hes, hel, trivial⟩, ?_, ?_, ?_⟩ rfl rfl (.made hu (.cons .str (.cons (k1.dat hs) (.cons .str (.cons dv .nil))))) (k1.trans (.new hu)) (R1.same (same_new hu _))
    · show max (0 + 1) 0 ≤ m + 1; omega
    · show 1 + 0 ≤ 1; omega
    · show 1 + 0 + 0 ≤ 1; omega
  | @give m wd x kd rk row name hrk hrow =>
    obtain ⟨b, x0, x1, x2, x3, x4, rfl, eb, d0, d1, d2, d3, d4⟩ := hd.five
    obtain rfl := d0.str_inv
    obtain rfl := d2.str_inv
    refine ⟨_, rfl, b, _, _, _, rfl, rfl, .inl eb, rfl, rfl, _, rfl, ?_⟩
    refine ite2 (fun z => absurd z (no_eq (by decide))) (fun _ => ?_)
    refine ⟨_, rfl, b, _, _, _, rfl, rfl, .inl eb, rfl, rfl, _, rfl, ?_⟩
    refine ite2 (fun _ => ?_) (fun z => absurd (by decide) z)
    refine ⟨_, rfl, b, _, _, _, rfl, rfl, .inl eb, rfl, _, rfl, _, rfl, _, rfl, x3, a, tr, r, ts, N, 2, rk, rfl, by decide, A0, hrk, d3, fun i H1 si k1 R1 => ?_⟩
    have eb1 := k1.tup _ _ eb
    refine ⟨_, rfl, _, rfl, b, _, _, _, rfl, rfl, .inl eb1, rfl, _, rfl, _, rfl, b, _, _, _, rfl, rfl, .inl eb1, rfl, _, rfl, _, rfl, _, rfl, x4, a, tr, r, ts, nms, N, m, wd, x, row, rfl, by omega, by omega, by omega, A0.kp k1 R1, hrow, k1.dat d4, fun v' rr H2 hrr dv k2 R2 => ?_⟩
    refine ⟨szb, fun u hu => ?_⟩
    refine q _ (.tup [.str "give", spotD sp, .str name, .int i, .tup rr.D]) (.give sp name i rr .nil) _ ⟨⟨(fun z => nomatch z), hrr.wf, trivial⟩, ⟨si, hrr.nm, trivial⟩, ?_, ?_, ?_⟩ rfl rfl (.made hu (.cons .str (.cons (k2.dat (k1.dat hs)) (.cons .str (.cons .int (.cons dv .nil)))))) (k1.trans (k2.trans (.new hu))) (R2.same (same_new hu _))
    · have := hrr.dep; show max (rr.dep + 1) 0 ≤ m + 1 + 1; omega
    · have := hrr.np; show rr.np + 0 ≤ wd; omega
    · have := hrr.sz; show 1 + rr.sz + 0 ≤ 1 + x; omega
  | @plain m wd x kd sets hands row tag hset hhand hsl hhl hrow =>
    obtain ⟨b, x0, x1, x2, x3, x4, x5, rfl, eb, d0, d1, d2, d3, d4, d5⟩ := hd.six
    obtain rfl := d0.str_inv
    obtain rfl := d2.str_inv
    obtain ⟨hb, hxs, rfl, ehb, dhb⟩ := d4.tup_inv
    refine ⟨_, rfl, b, _, _, _, rfl, rfl, .inl eb, rfl, rfl, _, rfl, ?_⟩
    refine ite2 (fun z => absurd z (no_eq (by decide))) (fun _ => ?_)
    refine ⟨_, rfl, b, _, _, _, rfl, rfl, .inl eb, rfl, rfl, _, rfl, ?_⟩
    refine ite2 (fun z => absurd z (no_eq (by decide))) (fun _ => ?_)
    refine ⟨szb, fun A hA => ?_⟩
    have s1 := same_new hA (.lst [])
    refine ⟨_, rfl, b, _, _, _, rfl, rfl, .inl (Same.rd s1 eb), rfl, hb, rfl, ⟨_, .inl (Same.rd s1 ehb)⟩, ?_⟩
    refine for_tup (K := K) (xs := hxs) (fun i σ H3 => (∃ y7 y8 y9 y10 y11 y12 y13 y14 y15, σ = [some (.ref b), some sv, some (.ref a), some (.ref tr), some (.ref r), none, some (.ref A), y7, y8, y9, y10, y11, y12, y13, y14, y15]) ∧ GR r H A R.HdR i H3)
      ⟨⟨_, _, _, _, _, _, _, _, _, rfl⟩, .start hA A0.rd⟩ (fun i σ H3 _ hP => .inl (hP.2.1.tup _ _ ehb)) (fun i y σ H3 hy hP => ?_) fun σ H3 hP => ?_
    · obtain ⟨⟨y7, y8, y9, y10, y11, y12, y13, y14, y15, rfl⟩, g⟩ := hP
      have hi := (List.getElem?_eq_some_iff.mp hy).1
      rw [dhb.len] at hi
      obtain ⟨hd, e1, e2⟩ := dhb.at hy
      obtain ⟨ev, rank, lastb, ch, rfl, hchl, hch⟩ := hhand hd (List.mem_of_getElem? e1)
      obtain ⟨c, z0, z1, z2, z3, rfl, ec, f0, f1, f2, f3⟩ := (g.1.dat e2).four
      obtain rfl := f0.str_inv
      obtain rfl := f1.int_inv
      obtain rfl := f2.bl_inv
      obtain ⟨cb, cxs, rfl, ecb, dcb⟩ := f3.tup_inv
      refine ⟨c, _, rfl, .inl ec, rfl, _, _, rfl, _, _, rfl, _, _, rfl, _, _, rfl, rfl, ?_⟩
      refine ⟨_, rfl, cb, rfl, ⟨_, .inl ecb⟩, fun A2 hA2 => ?_⟩
      refine lc_tup (K := K) (xs := cxs) (fun j H4 => GR r H3 A2 R.ChR j H4) (.start hA2 g.2.1) (fun j H4 _ g4 => .inl (g4.1.tup _ _ ecb)) (fun j y H4 hy4 g4 => ?_) fun H4 g4 => ?_
      · have hj := (List.getElem?_eq_some_iff.mp hy4).1
        rw [dcb.len] at hj
        obtain ⟨cd, e3, e4⟩ := dcb.at hy4
        obtain ⟨bx, wo, rk, rfl, hrk⟩ := hch cd (List.mem_of_getElem? e3)
        obtain ⟨c4, w0, w1, w2, rfl, ec4, h0, h1, h2⟩ := (g4.1.dat e4).three
        obtain rfl := h0.str_inv
        obtain rfl := h1.str_inv
        refine ⟨c4, _, rfl, .inl ec4, rfl, _, _, rfl, _, _, rfl, _, _, rfl, rfl, ?_⟩
        refine ⟨rfl, ?_⟩
        refine ⟨_, rfl, _, rfl, _, rfl, _, rfl, _, rfl, _, rfl, w2, a, tr, r, ts, N, 2, rk, rfl, by decide, (A0.kp g.1 g.2.1).kp g4.1 g4.2.1, hrk, h2, fun i2 H5 si k5 R5 => ?_⟩
        refine ⟨szb, fun u hu => ?_⟩
        exact g4.push hA2 g.2.1 (by omega) (k5.trans (.new hu)) (R5.same (same_new hu _)) (.made hu (.cons .str (.cons .str (.cons .int .nil)))) ⟨bx, wo, i2, rfl⟩
      · have g' := g.kp hA A0.rd g4.1 g4.2.1
        obtain ⟨k4, R4, ys, ds, e4, d4', l4, h4c⟩ := g4
        have l4c : ds.length ≤ 100 := by rw [l4, dcb.len]; exact hchl
        obtain ⟨_, _, ws, _, eA4, _⟩ := id g'
        refine ⟨_, rfl, .inl ⟨rfl, _, .of eA4⟩, _, rfl, _, rfl, _, rfl, _, rfl, A2, ys, rfl, .inl ⟨.of e4, fun u hu => ?_⟩⟩
        refine ⟨szb, fun u2 hu2 => ?_⟩
        obtain ⟨acc, ea, la, ga⟩ := g'.push (d := .tup [.str ev, .int rank, .bl lastb, .tup ds]) hA A0.rd (by omega) ((Kp.new hu).trans (.new hu2)) ((R4.same (same_new hu _)).same (same_new hu2 _)) (.made hu2 (.cons .str (.cons .int (.cons .bl (.cons (.made hu d4') .nil))))) ⟨ev, rank, lastb, ds, rfl, h4c, l4c⟩
        exact ⟨A, acc, _, rfl, rfl, ea, la, ⟨_, _, _, _, _, _, _, _, _, rfl⟩, ga⟩
    · obtain ⟨⟨y7, y8, y9, y10, y11, y12, y13, y14, y15, rfl⟩, g⟩ := hP
      have A3 := A0.kp g.1 g.2.1
      have eb3 := g.1.tup _ _ eb
      refine ⟨_, rfl, b, _, _, _, rfl, rfl, .inl eb3, rfl, _, rfl, _, rfl, _, rfl, x3, a, tr, r, ts, N, sets, rfl, A3, hset, hsl, g.1.dat d3, fun sv' es H4 hes hel dv4 k4 R4 => ?_⟩
      have g4 := g.kp hA A0.rd k4 R4
      have eb4 := k4.tup _ _ eb3
      obtain ⟨k04, _, ys, ds, e4, d4', l4, h4⟩ := id g4
      refine ⟨_, rfl, _, rfl, b, _, _, _, rfl, rfl, .inl eb4, rfl, _, rfl, _, rfl, A, ys, rfl, .inl ⟨.of e4, fun u hu => ?_⟩⟩
      have k5 : Kp [r] H4 (upd H4 u (.tup ys)) := .new hu
      have R5 : Rds (upd H4 u (.tup ys)) r := R4.same (same_new hu _)
      have du : Dat (upd H4 u (.tup ys)) (.ref u) (.tup ds) := .made hu d4'
      generalize upd H4 u (.tup ys) = H5 at *
      have eb5 := k5.tup _ _ eb4
      have k05 : Kp [r] H H5 := k04.trans k5
      refine ⟨_, rfl, b, _, _, _, rfl, rfl, .inl eb5, rfl, _, rfl, _, rfl, _, rfl, x5, a, tr, r, ts, nms, N, m, wd, x, row, rfl, by omega, by omega, by omega, A0.kp k05 R5, hrow, k05.dat d5, fun v' rr H6 hrr dv6 k6 R6 => ?_⟩
      refine ⟨szb, fun u2 hu2 => ?_⟩
      refine q _ (.tup [.str "plain", spotD sp, .str tag, .tup es, .tup ds, .tup rr.D]) (.plain sp tag es ds rr .nil) _ ⟨⟨⟨h4, hes, hel⟩, ?_, (fun z => nomatch z), hrr.wf, trivial⟩, ⟨hrr.nm, trivial⟩, ?_, ?_, ?_⟩ rfl rfl
        (.made hu2 (.cons .str (.cons (k6.dat (k05.dat hs)) (.cons .str (.cons (k6.dat (k5.dat dv4)) (.cons (k6.dat du) (.cons dv6 .nil))))))) (k05.trans (k6.trans (.new hu2))) (R6.same (same_new hu2 _))
      · rw [l4, dhb.len]; exact hhl
      · have := hrr.dep; show max (rr.dep + 1) 0 ≤ m + 1 + 1; omega
      · have := hrr.np; show rr.np + 0 ≤ wd; omega
      · have := hrr.sz; show 1 + rr.sz + 0 ≤ 1 + x; omega
end
end Vw

set_option maxHeartbeats 4000000
/-! what lines bring, rows -/
namespace Vw
open PySem PySem.Spec PyProof.Rows L2
open C8 (pss_cut tCut)

/-- the dict of counts, for the spots given out -/
structure Cn (kvs : List (Leaf × V)) (ss : List Spot) : Prop where
  iv : ∀ kv ∈ kvs, ∃ i, kv.2 = .int i
  len : kvs.length ≤ ss.length
  lt : ∀ s ∈ ss, ∃ i, valV kvs (lK s.1) = some (.int i) ∧ s.2 < i
theorem Cn.next {kvs : List (Leaf × V)} {ss : List Spot} (h : Cn kvs ss) (k : Option Int) : ∃ i : Int, (valV kvs (lK k)).getD (.int 0) = .int i ∧ (k, i) ∉ ss ∧ Cn (putK kvs (lK k) (.int (i + 1))) (ss ++ [(k, i)]) := by
  have : ∃ i : Int, (valV kvs (lK k)).getD (.int 0) = .int i ∧ ∀ j, valV kvs (lK k) = some (.int j) → j = i := by
    cases e : valV kvs (lK k) with
    | none => exact ⟨0, rfl, fun j z => nomatch z⟩
    | some v =>
      obtain ⟨i, hi⟩ := h.iv _ (valV_mem e)
      have hi : v = .int i := hi
      subst hi
      exact ⟨i, rfl, fun j z => by cases z; rfl⟩
  obtain ⟨i, e1, e2⟩ := this
  refine ⟨i, e1, fun m => ?_, ⟨fun kv m => ?_, ?_, fun s m => ?_⟩⟩
  · obtain ⟨j, h1, h2⟩ := h.lt _ m
    rw [e2 j h1] at h2
    exact Int.lt_irrefl _ h2
  · rcases mem_putK m with e | e
    · rw [e]; exact ⟨_, rfl⟩
    · exact h.iv _ e
  · have := length_putK kvs (lK k) (.int (i + 1))
    have := h.len
    rw [List.length_append, List.length_singleton]
    omega
  · rw [valV_put]
    rcases List.mem_append.mp m with m | m
    · obtain ⟨j, h1, h2⟩ := h.lt s m
      split
      · next e =>
        rw [e] at h1
        have h2' := e2 j h1
        exact ⟨i + 1, rfl, by omega⟩
      · exact ⟨j, h1, h2⟩
    · rw [List.mem_singleton.mp m, if_pos rfl]
      exact ⟨i + 1, rfl, by show i < i + 1; omega⟩

section
variable {P : Program} {w : World} {K : PySem.W.Frag} {mg : Str → Option Value} {base : Heap} {f : Addr} {fd : FuncData} {k : Nat}
/-- what was brought so far: the list at fa, the counts at ca -/
def BI (P : Program) (w : World) (H : Hp) (fa ca : Addr) (nms : List Str) (M wd x : Nat) : Prop := ∃ rr xs kvs, Rw nms M wd x rr ∧ H fa = some (.lst xs) ∧ Dats H xs rr.D ∧ LD P w H ca kvs ∧ Cn kvs rr.spots
theorem BI.kp {H H' : Hp} {fa ca : Addr} {nms : List Str} {M wd x : Nat} {ms : List Addr} (b : BI P w H fa ca nms M wd x) (k : Kp ms H H') (n1 : fa ∉ ms) (n2 : ca ∉ ms) : BI P w H' fa ca nms M wd x := by
  obtain ⟨rr, xs, kvs, h1, h2, h3, h4, h5⟩ := b
  exact ⟨rr, xs, kvs, h1, k.all _ _ n1 h2, k.dats h3, ⟨k.all _ _ n2 h4.1, h4.2⟩, h5⟩
theorem BI.kr {H H' : Hp} {fa ca r : Addr} {nms : List Str} {M wd x : Nat} (b : BI P w H fa ca nms M wd x) (R : Rds H r) (k : Kp [r] H H') : BI P w H' fa ca nms M wd x := by
  have h := id b
  obtain ⟨rr, xs, kvs, h1, h2, h3, h4, h5⟩ := h
  obtain ⟨rk, er, _⟩ := R
  exact b.kp k (by simpa using ne_of h2 er fun z => nomatch z) (by simpa using ne_of h4.1 er fun z => nomatch z)
theorem BI.same {H H' : Hp} {fa ca : Addr} {nms : List Str} {M wd x : Nat} (b : BI P w H fa ca nms M wd x) (s : Same H H') : BI P w H' fa ca nms M wd x := b.kp (ms := []) (.same s) (by simp) (by simp)
theorem BI.up {H : Hp} {fa ca : Addr} {nms : List Str} {M wd x wd' x' : Nat} (b : BI P w H fa ca nms M wd x) (h1 : wd ≤ wd') (h2 : x ≤ x') : BI P w H fa ca nms M wd' x' := by
  obtain ⟨rr, xs, kvs, h, r⟩ := b
  exact ⟨rr, xs, kvs, ⟨h.wf, h.nm, h.dep, Nat.le_trans h.np h1, Nat.le_trans h.sz h2⟩, r⟩
theorem LD.at {H H' : Hp} {a : Addr} {kvs : List (Leaf × V)} (h : LD P w H a kvs) (e : H' a = H a) : LD P w H' a kvs := ⟨by rw [e]; exact h.1, h.2⟩

def spBrought (n : Nat) (P : Program) (w : World) : Sp := fun vs H Q _ => ∃ (v : V) (qa a tr r fa ca : Addr) (ts nms : List Str) (N m M wd x wd0 x0 : Nat) (ls : List D), vs = [v, .ref qa, .ref tr, .ref fa, .ref ca] ∧ m < n ∧ N + m ≤ 100 ∧ m ≤ M ∧ x0 + x ≤ 1000 ∧ Ask H a tr r ts N ∧
  Rd H qa (.tup [.ref a, .ref r]) ∧ BI P w H fa ca nms M wd0 x0 ∧ Lns nms ts m wd x ls ∧ Dat H v (.tup ls) ∧
  ∀ H', BI P w H' fa ca nms M (wd0 + wd) (x0 + x) → Kp [r, fa, ca] H H' → Rds H' r → Q .non H'
theorem Kp.r3 {r fa ca : Addr} {H H' : Hp} (k : Kp [r] H H') : Kp [r, fa, ca] H H' := k.sub fun b hb => by simp [List.mem_singleton.mp hb]
/-- reads and turns are apart from the list and the counts -/
theorem Ask.k3 {H H' : Hp} {a tr r fa ca : Addr} {ts nms : List Str} {N M wd x : Nat} (A : Ask H a tr r ts N) (b : BI P w H fa ca nms M wd x) (k : Kp [r, fa, ca] H H') (R : Rds H' r) : Ask H' a tr r ts N := by
  obtain ⟨rr, xs, kvs, h1, h2, h3, h4, h5⟩ := b
  have nr := A.ne
  have tn := A.tr_ne
  obtain ⟨_, ea, _⟩ := id A.an
  obtain ⟨_, et, _⟩ := id A.tn
  have n1 : a ≠ fa := ne_of ea h2 fun z => nomatch z
  have n2 : a ≠ ca := ne_of ea h4.1 fun z => nomatch z
  have n3 : tr ≠ fa := ne_of et h2 fun z => nomatch z
  have n4 : tr ≠ ca := ne_of et h4.1 fun z => nomatch z
  exact ⟨A.an.kp k (by simp [nr, n1, n2]), A.tn.kp k (by simp [tn, n3, n4]), R, nr⟩
theorem Ask.no {H : Hp} {a tr r : Addr} {ts : List Str} {N : Nat} (A : Ask H a tr r ts N) : Ask H a tr r [] N := by
  obtain ⟨kvs, e, l, _⟩ := A.tn
  exact ⟨A.an, ⟨kvs, e, l, fun _ h => nomatch h⟩, A.rd, A.ne⟩
/-- where a loop over lines stands -/
def LI (P : Program) (w : World) (H : Hp) (fa ca r : Addr) (nms ts : List Str) (m M wd x wd0 x0 : Nat) (ls : List D) (H' : Hp) (i : Nat) : Prop :=
  ∃ w1 x1 w2 x2, w1 + w2 ≤ wd ∧ x1 + x2 ≤ x ∧ Lns nms ts m w2 x2 (ls.drop i) ∧ BI P w H' fa ca nms M (wd0 + w1) (x0 + x1) ∧ Kp [r, fa, ca] H H' ∧ Rds H' r
theorem at_0 {y : V} {ys : List V} : atI (y :: ys) 0 = some y := atI_of (by decide) rfl
theorem at_1 {x y : V} {ys : List V} : atI (x :: y :: ys) 1 = some y := atI_of (by decide) rfl
theorem Lns.split {nms ts : List Str} {m w x : Nat} {d : D} {next : List D} (h : Lns nms ts m w x (d :: next)) :
    (∃ (w' x' w'' x'' : Nat) (wd : Str) (kd : D) (rest : List D), Lt nms ts m w' x' d ∧ d = .tup (.str wd :: kd :: rest) ∧ wd ≠ "when" ∧ wd ≠ "each" ∧ KeyOk ts kd ∧ Lns nms ts m w'' x'' next ∧ w' + w'' = w ∧ x' + x'' = x) ∨
    (∃ (n w1 c1 w2 c2 w'' x'' : Nat) (r : D) (a b : List D), m = n + 1 ∧ d = .tup [.str "when", r, .tup a, .tup b] ∧ Rk ts 2 r ∧ Lns nms ts n w1 c1 a ∧ Lns nms ts n w2 c2 b ∧ Lns nms ts m w'' x'' next ∧ w1 + w2 + w'' = w ∧ c1 + c2 + x'' = x) ∨
    ∃ (n w' x' w'' x'' : Nat) (nm : Str) (r : D) (row : List D), m = n + 1 ∧ d = .tup [.str "each", .str nm, r, .tup row] ∧ Rk [] 2 r ∧ Lns nms [nm] n w' x' row ∧ Lns nms ts m w'' x'' next ∧ 8 * w' + w'' = w ∧ 8 * x' + x'' = x := by
  cases h with
  | plain h1 h2 h3 h4 h5 h6 h7 => exact .inl ⟨_, _, _, _, _, _, _, .plain h2 h3 h4 h5 h6, rfl, by decide, by decide, h1, h7, rfl, rfl⟩
  | part h1 h2 h3 h4 h5 => exact .inl ⟨_, _, _, _, _, _, _, .part h1 h3 h4, rfl, by decide, by decide, h2, h5, rfl, rfl⟩
  | give h1 h2 h3 h4 => exact .inl ⟨_, _, _, _, _, _, _, .give h2 h3, rfl, by decide, by decide, h1, h4, rfl, rfl⟩
  | «when» h1 h2 h3 h4 => exact .inr (.inl ⟨_, _, _, _, _, _, _, _, _, _, rfl, rfl, h1, h2, h3, h4, rfl, rfl⟩)
  | each h1 h2 h3 => exact .inr (.inr ⟨_, _, _, _, _, _, _, _, rfl, rfl, h1, h2, h3, rfl, rfl⟩)
theorem sc_law_brought : FnScope ["_law_lines_here", "_law_asked", "_law_turns", "_law_found", "_law_counts", "_law_answers_here", "_law_reads", "_law_line_here", "_law_number_here", "_law_k", "_law_inner", "_law_key_here"] ["_law_lines_here", "_law_asked", "_law_turns", "_law_found", "_law_counts"] (defScope (Vh.top 23)) := ⟨rfl, rfl, rfl, by decide +kernel, rfl, by decide +kernel, by decide +kernel⟩
theorem ok_brought {n : Nat} (F : Fun K "_law_brought" "_law_brought" (Vh.top 23) f fd) (B : Blt mg) (C_law_reckoned : Cl P w K mg base k "_law_reckoned" (spReck 3)) (C_law_thing : Cl P w K mg base k "_law_thing" (spThing (n + 1)))
    (C_law_brought : Cl P w K mg base k "_law_brought" (spBrought n P w)) : FnOk P w K mg base CX0 (k + 1) f fd ["_law_lines_here", "_law_asked", "_law_turns", "_law_found", "_law_counts"] (spBrought (n + 1) P w) := by
  refine F.ok sc_law_brought (fun vs H Q E h => ?_) (fun cdv A outer s H vs Q E hr h => ?_)
  · obtain ⟨v, _, _, _, _, _, _, _, _, _, _, _, _, _, _, _, _, rfl, _⟩ := h
    rfl
  obtain ⟨v, qa, a, tr, r, fa, ca, ts, nms, N, m, M, wd, x, wd0, x0, ls, rfl, hm, hN, hM, hx, A0, eq, b0, hl, hd, q⟩ := h
  refine ⟨_, (pss_cons (ps_asg (pv 1) (pg_tup rfl (pgs_cons (pg_name (i := 5) sc_law_brought.nd rfl (.inl rfl)) (pgs_cons (pg_name (i := 6) sc_law_brought.nd rfl (.inl rfl)) pgs_nil))))
  (pss_one (ps_for PassesOwn.never rfl (pi_tup (pv 0)) (pg_name (i := 7) sc_law_brought.nd rfl (.inl rfl)) (pss_one (ps_if (pt_cmpR op_eq (pe_ix ix_tup (pv 7) pe_int (fun _ _ => rfl)) pe_str (nomark _)) (pss_cons (ps_set (i := 8) sc_law_brought.nd rfl (Or.inl rfl) (pe_cl C_law_reckoned hr (by rfl) (pa_cons (pe_ix ix_tup (pv 7) pe_int (fun _ _ => rfl)) (pa_cons (pv 5) (pa_cons (pv 2) (pa_cons (pv 6) pa_nil))))))
  (pss_one (ps_expr (pe_cl C_law_brought hr (by rfl) (pa_cons (pe_ix ix_tup (pv 7) (pe_op op_add pe_int (pe_callTy call_int1 (by rfl) B.int_ (by decide +kernel) (pa_cons (pe_cmpR op_eq (pv 8) pe_int (nomark _)) pa_nil))) (fun _ _ => rfl)) (pa_cons (pv 1) (pa_cons (pv 2) (pa_cons (pv 3) (pa_cons (pv 4) pa_nil))))))))) (pss_one (ps_if (pt_cmpR op_eq (pe_ix ix_tup (pv 7) pe_int (fun _ _ => rfl)) pe_str (nomark _)) (pss_one (ps_for PassesOwn.never rfl (pi_range1 (by rfl) B.range_ (pa_cons (pe_callB (call_min2 rfl) (by rfl) B.min_ (by decide +kernel) (pa_cons pe_int (pa_cons (pe_cl C_law_reckoned hr (by rfl) (pa_cons (pe_ix ix_tup (pv 7) pe_int (fun _ _ => rfl)) (pa_cons (pv 5) (pa_cons (pv 2) (pa_cons (pv 6) pa_nil))))) pa_nil))) pa_nil)) (pg_name (i := 9) sc_law_brought.nd rfl (.inl rfl)) (pss_cons (ps_set (i := 10) sc_law_brought.nd rfl (Or.inl rfl) (pe_callTy call_dictD (by rfl) B.dict_ (by decide +kernel) (pa_cons (pv 2) pa_nil)))
  (pss_cons (ps_dput (hu_of hr) (pv 10) (pe_ix ix_tup (pv 7) pe_int (fun _ _ => rfl)) (pv 9) rfl)
  (pss_one (ps_expr (pe_cl C_law_brought hr (by rfl) (pa_cons (pe_ix ix_tup (pv 7) pe_int (fun _ _ => rfl)) (pa_cons (pv 1) (pa_cons (pv 10) (pa_cons (pv 3) (pa_cons (pv 4) pa_nil)))))))))))) (pss_cons (ps_set (i := 11) sc_law_brought.nd rfl (Or.inl rfl) pe_non)
  (pss_cut (ps_if (pt_cmpR op_notN (pe_ix ix_tup (pv 7) pe_int (fun _ _ => rfl)) pe_non (nomark _)) (pss_one (ps_set (i := 11) sc_law_brought.nd rfl (Or.inl rfl) (pe_cl C_law_reckoned hr (by rfl) (pa_cons (pe_ix ix_tup (pv 7) pe_int (fun _ _ => rfl)) (pa_cons (pv 5) (pa_cons (pv 2) (pa_cons (pv 6) pa_nil))))))) pss_nil)
  (pss_cons (ps_lput (pv 4) (pv 11) (pe_op op_add (pe_lget2 (pv 4) (pv 11) pe_int ⟨by rfl, by rfl, by rfl, by rfl⟩) pe_int) rfl)
  (pss_one (ps_expr (pe_bm PySem.F.plainAttrs_list PySem.F.slot_list_append PySem.F.type_list_append mt_append (pv 3) (pa_cons (pe_cl C_law_thing hr (by rfl) (pa_cons (pv 7) (pa_cons (pe_tup (pa_cons (pv 11) (pa_cons (pe_op op_sub (pe_lget (pv 4) (pv 11) (fun _ _ => rfl)) pe_int) pa_nil))) (pa_cons (pv 5) (pa_cons (pv 2) (pa_cons (pv 6) pa_nil)))))) pa_nil)))))))))))))), ?_⟩
  refine ⟨_, rfl, qa, _, rfl, .inl eq, rfl, _, _, rfl, _, _, rfl, rfl, ?_⟩
  obtain ⟨b, xs, rfl, eb, db⟩ := hd.tup_inv
  refine ⟨_, rfl, b, rfl, ⟨_, .inl eb⟩, ?_⟩
  refine for_tup (K := K) (xs := xs) (fun i σ H3 => (∃ y7 y8 y9 y10 y11, σ = [some (.ref b), some (.ref qa), some (.ref tr), some (.ref fa), some (.ref ca), some (.ref a), some (.ref r), y7, y8, y9, y10, y11]) ∧ LI P w H fa ca r nms ts m M wd x wd0 x0 ls H3 i)
    ⟨⟨_, _, _, _, _, rfl⟩, 0, 0, wd, x, by omega, by omega, hl, b0, .refl, A0.rd⟩ (fun i σ H3 _ hP => ?_) (fun i y σ H3 hy hP => ?_) fun σ H3 hP => ?_
  · obtain ⟨_, w1, x1, w2, x2, h1, h2, h3, h4, h5, h6⟩ := hP
    exact .inl (h5.tup _ _ eb)
  · obtain ⟨⟨y7, y8, y9, y10, y11, rfl⟩, w1, x1, w2, x2, hw, hxx, hl3, b3, k3, R3⟩ := hP
    obtain ⟨d, hd1, hd2⟩ := db.at hy
    have hi := (List.getElem?_eq_some_iff.mp hd1).1
    have A3 := A0.k3 b0 k3 R3
    have dd := k3.dat hd2
    have eq3 := k3.tup _ _ eq
    rw [List.drop_eq_getElem_cons hi, (List.getElem?_eq_some_iff.mp hd1).2] at hl3
    rcases hl3.split with ⟨w', x', w'', x'', wo, kd, rest, hlt, rfl, hn1, hn2, hk, hnx, hw2, hx2⟩ | ⟨n', wa, ca', wb, cb, w'', x'', rk, la, lb, rfl, rfl, hrk, hla, hlb, hnx, hw2, hx2⟩ | ⟨n', w', x', w'', x'', nm, rk, row, rfl, rfl, hrk, hrow, hnx, hw2, hx2⟩
    · -- a thing
      obtain ⟨c, ys, rfl, ec, dys⟩ := dd.tup_inv
      obtain ⟨y0, ys, rfl, d0, dys2⟩ := dys.cons_inv
      obtain ⟨y1, ys, rfl, d1, dys3⟩ := dys2.cons_inv
      obtain rfl := d0.str_inv
      refine ⟨_, rfl, c, _, _, _, rfl, rfl, .inl ec, at_0, rfl, _, rfl, ?_⟩
      refine ite2 (fun z => absurd z (no_eq hn1)) (fun _ => ?_)
      refine ⟨_, rfl, c, _, _, _, rfl, rfl, .inl ec, at_0, rfl, _, rfl, ?_⟩
      refine ite2 (fun z => absurd z (no_eq hn2)) (fun _ => ?_)
      refine ⟨fun σ' H' => ∃ ko, σ' = [some (.ref b), some (.ref qa), some (.ref tr), some (.ref fa), some (.ref ca), some (.ref a), some (.ref r), some (.ref c), y8, y9, y10, some (lV ko)] ∧ Kp [r] H3 H' ∧ Rds H' r, ?_, ?_⟩
      · refine ⟨_, rfl, c, _, _, _, rfl, rfl, .inl ec, at_1, rfl, _, rfl, ?_⟩
        refine ite2 (fun z => ?_) (fun _ => ⟨none, rfl, .refl, R3⟩)
        rcases hk with rfl | hk
        · rw [d1.non_inv] at z
          exact absurd z (by decide)
        · refine ⟨_, rfl, c, _, _, _, rfl, rfl, .inl ec, at_1, _, rfl, _, rfl, _, rfl, y1, a, tr, r, ts, N, 0, kd, rfl, by decide, A3, hk, d1, fun i4 H4 si k4 R4 => ?_⟩
          exact ⟨some i4, rfl, k4, R4⟩
      · rintro _ H4 ⟨ko, rfl, k4, R4⟩
        have b4 := b3.kr R3 k4
        have A4 := A3.kp k4 R4
        have ec4 := k4.tup _ _ ec
        have dd4 : Dat H4 (.ref c) (.tup (.str wo :: kd :: rest)) := .tup ec4 (.cons .str (.cons (k4.dat d1) (k4.dats dys3)))
        have k04 : Kp [r, fa, ca] H H4 := k3.trans k4.r3
        clear k4 b3 A3
        obtain ⟨rr, acc, kvs, hrr, efa, dacc, Ld, cn⟩ := id b4
        obtain ⟨i4, ei, hfresh, cn'⟩ := cn.next ko
        have hks : kvs.length ≤ 1000 := by
          have h1 := cn.len
          have h2 := rr.spots_sz
          have h3 := hrr.sz
          omega
        refine ⟨_, rfl, ca, rfl, ⟨_, Ld⟩, _, rfl, kvs, ko, Ld, rfl, i4, 1, ei, rfl, _, rfl, _, rfl, ca, kvs, ko, rfl, Ld, rfl, small1000 hks, fun H5 k5 L5 => ?_⟩
        have nca : fa ≠ ca := ne_of efa Ld.1 fun z => nomatch z
        have efa5 := k5.at1 nca efa
        have R5 : Rds H5 r := by
          obtain ⟨rk, er, hr⟩ := R4
          exact ⟨rk, k5.at1 (ne_of er Ld.1 fun z => nomatch z) er, hr⟩
        have k5' : Kp [r, fa, ca] H4 H5 := k5.sub fun b hb => by simp [List.mem_singleton.mp hb]
        have A5 := A4.k3 b4 k5' R5
        have v5 : valV (putK kvs (lK ko) (.int (i4 + 1))) (lK ko) = some (.int (i4 + 1)) := by rw [valV_put, if_pos rfl]
        refine ⟨_, rfl, .inl ⟨rfl, _, .of efa5⟩, _, rfl, _, rfl, _, rfl, _, rfl, ca, _, ko, _, rfl, L5, rfl, v5, _, _, rfl, rfl, szb, fun u hu => ?_⟩
        have s6 := same_new hu (.tup [lV ko, .int (i4 + 1 - 1)])
        have k6 : Kp [r] H5 (upd H5 u (.tup [lV ko, .int (i4 + 1 - 1)])) := .new hu
        have hi4 : i4 + 1 - 1 = i4 := by omega
        have du : Dat (upd H5 u (.tup [lV ko, .int (i4 + 1 - 1)])) (.ref u) (spotD (ko, i4)) := .made hu (.cons (lV_dat _) (.cons (by rw [hi4]; exact .int) .nil))
        generalize upd H5 u (.tup [lV ko, .int (i4 + 1 - 1)]) = H6 at *
        refine ⟨_, rfl, _, rfl, _, rfl, .ref c, .ref u, a, tr, r, ts, nms, N, m, w', x', (ko, i4), _, rfl, hm, hN, by omega, A5.same s6, hlt, Same.dat s6 (k5.dat dd4), du, fun v' d' rr1 H7 hrr1 hD hS dv k7 R7 => ?_⟩
        have nr : fa ≠ r := R5.nl efa5
        have nc : ca ≠ r := by
          obtain ⟨rk, er, _⟩ := id R5
          exact ne_of L5.1 er fun z => nomatch z
        have efa7 := k7.at1 nr (s6 _ _ efa5)
        have L7 : LD P w H7 ca (putK kvs (lK ko) (.int (i4 + 1))) := ⟨k7.at1 nc (s6 _ _ L5.1), L5.2⟩
        have dacc7 := k7.dats (k6.dats (k5.dats dacc))
        have hal : acc.length ≤ 1000 := by
          rw [dacc.len, R.D_len]
          have h2 := rr.spots_sz
          have h3 := hrr.sz
          omega
        refine ⟨fa, acc, _, rfl, rfl, efa7, small1000 hal, ⟨_, _, _, _, _, rfl⟩, w1 + w', x1 + x', w'', x'', by omega, by omega, hnx, ?_, ?_, R7.put efa7 _⟩
        · have hdep := hrr.dep; have hdep1 := hrr1.dep
          have hnp := hrr.np; have hnp1 := hrr1.np
          have hsz := hrr.sz; have hsz1 := hrr1.sz
          refine ⟨rr.app rr1, acc ++ [v'], putK kvs (lK ko) (.int (i4 + 1)), ⟨R.Wf_app _ _ hrr.wf hrr1.wf fun s m => ?_, R.Nm_app _ _ hrr.nm hrr1.nm, ?_, ?_, ?_⟩, upd_same, ?_, ⟨?_, L7.2⟩, ?_⟩
          · rw [hS]
            intro m2
            rw [List.mem_singleton.mp m2] at m
            exact hfresh m
          · rw [R.dep_app]; omega
          · rw [R.np_app]; omega
          · rw [R.sz_app]; omega
          · rw [R.D_app, hD]
            exact (dacc7.snoc dv).lst efa7 _
          · rw [upd_ne (Ne.symm nca)]; exact L7.1
          · rw [R.spots_app, hS]; exact cn'
        · refine (k04.trans (k5'.trans (k6.r3.trans k7.r3))).trans ((Kp.lst efa7 _).sub fun b hb => by simp [List.mem_singleton.mp hb])
    · -- a when
      obtain ⟨c, y0, y1, y2, y3, rfl, ec, d0, d1, d2, d3⟩ := dd.four
      obtain rfl := d0.str_inv
      refine ⟨_, rfl, c, _, _, _, rfl, rfl, .inl ec, rfl, rfl, _, rfl, ?_⟩
      refine ite2 (fun _ => ?_) (fun z => absurd (by decide) z)
      refine ⟨_, rfl, c, _, _, _, rfl, rfl, .inl ec, rfl, _, rfl, _, rfl, _, rfl, y1, a, tr, r, ts, N, 2, rk, rfl, by decide, A3, hrk, d1, fun i4 H4 si k4 R4 => ?_⟩
      have A4 := A3.kp k4 R4
      have ec4 := k4.tup _ _ ec
      have b4 := b3.kr R3 k4
      obtain ⟨y, lx, wx, cx, hj, dj, hlx, hwx, hcx⟩ : ∃ (y : V) (lx : List D) (wx cx : Nat), atI [V.str "when", y1, y2, y3] (2 + (if decide (V.int i4 = V.int 0) = true then 1 else 0) : Int) = some y ∧ Dat H4 y (.tup lx) ∧ Lns nms ts n' wx cx lx ∧ wx ≤ wa + wb ∧ cx ≤ ca' + cb := by
        split
        · exact ⟨y3, lb, wb, cb, rfl, k4.dat d3, hlb, by omega, by omega⟩
        · exact ⟨y2, la, wa, ca', rfl, k4.dat d2, hla, by omega, by omega⟩
      refine ⟨_, rfl, _, rfl, rfl, .inr ⟨_, rfl, _, _, rfl, rfl, c, _, _, _, rfl, rfl, .inl ec4, hj, _, rfl, _, rfl, _, rfl, _, rfl, y, qa, a, tr, r, fa, ca, ts, nms, N, n', M, wx, cx, wd0 + w1, x0 + x1, lx, rfl, by omega, by omega, by omega, by omega, A4, k4.tup _ _ eq3, b4, hlx, dj, fun H5 b5 k5 R5 => ?_⟩⟩
      exact ⟨⟨_, _, _, _, _, rfl⟩, w1 + wx, x1 + cx, w'', x'', by omega, by omega, hnx, b5.up (by omega) (by omega), k3.trans (k4.r3.trans k5), R5⟩
    · -- an each
      obtain ⟨c, y0, y1, y2, y3, rfl, ec, d0, d1, d2, d3⟩ := dd.four
      obtain rfl := d0.str_inv
      obtain rfl := d1.str_inv
      refine ⟨_, rfl, c, _, _, _, rfl, rfl, .inl ec, rfl, rfl, _, rfl, ?_⟩
      refine ite2 (fun z => absurd z (no_eq (by decide))) (fun _ => ?_)
      refine ⟨_, rfl, c, _, _, _, rfl, rfl, .inl ec, rfl, rfl, _, rfl, ?_⟩
      refine ite2 (fun _ => ?_) (fun z => absurd (by decide) z)
      refine ⟨_, rfl, c, _, _, _, rfl, rfl, .inl ec, rfl, _, rfl, _, rfl, _, rfl, y2, a, tr, r, [], N, 2, rk, rfl, by decide, A3.no, hrk, d2, fun i4 H4 si k4 R4 => ?_⟩
      have A4 := A3.kp k4 R4
      have ec4 := k4.tup _ _ ec
      have b4 := b3.kr R3 k4
      have h8 : (if i4 < 8 then i4 else 8) ≤ 8 := by split <;> omega
      have h8' : -(1000000000 : Int) ≤ (if i4 < 8 then i4 else 8) := by unfold Sm at si; split <;> omega
      refine ⟨_, _, rfl, (if i4 < 8 then i4 else 8), rfl, by omega, by omega, ?_⟩
      refine for_range (lo := 0) (n := (if i4 < 8 then i4 else 8).toNat) (fun j σ H5 => (∃ y8 y9 y10 y11, σ = [some (.ref b), some (.ref qa), some (.ref tr), some (.ref fa), some (.ref ca), some (.ref a), some (.ref r), some (.ref c), y8, y9, y10, y11]) ∧ BI P w H5 fa ca nms M (wd0 + w1 + j * w') (x0 + x1 + j * x') ∧ Kp [r, fa, ca] H4 H5 ∧ Rds H5 r)
        ⟨⟨_, _, _, _, rfl⟩, b4.up (by omega) (by omega), .refl, R4⟩ (fun j σ H5 hj hP => ?_) fun σ H5 hP => ?_
      · obtain ⟨⟨y8, y9, y10, y11, rfl⟩, b5, k5, R5⟩ := hP
        have hj8 : j < 8 := by omega
        have A5 := A4.k3 b4 k5 R5
        obtain ⟨tkvs, et, tl, th⟩ := id A5.tn
        refine ⟨_, rfl, tr, _, rfl, .inl et, fun p hp => ?_⟩
        have hpc : p ∉ [r, fa, ca] := by
          obtain ⟨rr, acc, kvs, hrr, efa, dacc, Ld, cn⟩ := id b5
          have h1 := R5.new hp
          have h2 := (ne_of_none efa hp).symm
          have h3 := (ne_of_none Ld.1 hp).symm
          simp [h1, h2, h3]
        have s6 := same_new hp (.dK tkvs)
        have A6 := A5.same s6
        have b6 := b5.same s6
        have ec6 := Same.rd s6 (k5.tup _ _ ec4)
        have ep6 : (upd H5 p (.dK tkvs)) p = some (.dK tkvs) := upd_same
        have k6 : Kp [r, fa, ca] H5 (upd H5 p (.dK tkvs)) := .new hp
        refine ⟨_, rfl, _, rfl, _, rfl, c, _, _, _, rfl, rfl, .inl ec6, rfl, p, _, rfl, DPut.k (k := Sum.inr nm) ep6 (small1000 (by omega)), ?_⟩
        have k7 : Kp [p] (upd H5 p (.dK tkvs)) (upd (upd H5 p (.dK tkvs)) p (.dK (putK tkvs (Sum.inr nm) (.int (0 + (j : Int)))))) := .put (by simp) ep6 (fun _ z => nomatch z) fun _ _ z => nomatch z
        have s7 : Same H5 (upd (upd H5 p (.dK tkvs)) p (.dK (putK tkvs (Sum.inr nm) (.int (0 + (j : Int)))))) := ((Kp.new (ms := [p]) hp).trans k7).nil fun b hb => by rw [List.mem_singleton.mp hb]; exact hp
        have ep7 : (upd (upd H5 p (.dK tkvs)) p (.dK (putK tkvs (Sum.inr nm) (.int (0 + (j : Int)))))) p = some (.dK (putK tkvs (Sum.inr nm) (.int (0 + (j : Int))))) := upd_same
        generalize upd (upd H5 p (.dK tkvs)) p (.dK (putK tkvs (Sum.inr nm) (.int (0 + (j : Int))))) = H7 at *
        have A7 : Ask H7 a p r [nm] (N + 1) := by
          have A7 := A5.same s7
          refine ⟨A7.an, ⟨_, ep7, ?_, fun x hx => ?_⟩, A7.rd, A7.ne⟩
          · have := length_putK tkvs (Sum.inr nm) (.int (0 + (j : Int))); omega
          · rw [List.mem_singleton.mp hx]
            exact ⟨0 + (j : Int), by rw [valV_put, if_pos rfl], by unfold Sm; omega⟩
        have ec7 := Same.rd s7 (k5.tup _ _ ec4)
        have hjw : j * w' + w' ≤ 8 * w' := by
          have := Nat.mul_le_mul_right w' (show j + 1 ≤ 8 by omega)
          rw [Nat.succ_mul] at this
          exact this
        have hjx : j * x' + x' ≤ 8 * x' := by
          have := Nat.mul_le_mul_right x' (show j + 1 ≤ 8 by omega)
          rw [Nat.succ_mul] at this
          exact this
        refine ⟨_, rfl, c, _, _, _, rfl, rfl, .inl ec7, rfl, _, rfl, _, rfl, _, rfl, _, rfl, y3, qa, a, p, r, fa, ca, [nm], nms, N + 1, n', M, w', x', wd0 + w1 + j * w', x0 + x1 + j * x', row, rfl, by omega, by omega, by omega, by omega, A7, Same.rd s7 (k5.tup _ _ (k4.tup _ _ eq3)), b5.same s7, hrow, Same.dat s7 (k5.dat (k4.dat d3)), fun H8 b8 k8 R8 => ?_⟩
        refine ⟨⟨_, _, _, _, rfl⟩, b8.up ?_ ?_, k5.trans ((Kp.same s7).trans k8), R8⟩
        · rw [Nat.succ_mul]; omega
        · rw [Nat.succ_mul]; omega
      · obtain ⟨⟨y8, y9, y10, y11, rfl⟩, b5, k5, R5⟩ := hP
        have hn8 : (if i4 < 8 then i4 else 8).toNat ≤ 8 := by omega
        have hw8 := Nat.mul_le_mul_right w' hn8
        have hx8 := Nat.mul_le_mul_right x' hn8
        exact ⟨⟨_, _, _, _, _, rfl⟩, w1 + 8 * w', x1 + 8 * x', w'', x'', by omega, by omega, hnx, b5.up (by omega) (by omega), k3.trans (k4.r3.trans k5), R5⟩
  · obtain ⟨⟨y7, y8, y9, y10, y11, rfl⟩, w1, x1, w2, x2, hw, hxx, hl3, b3, k3, R3⟩ := hP
    exact q _ (b3.up (by omega) (by omega)) k3 R3
end
end Vw

set_option maxHeartbeats 4000000
/-! rows, pieces -/
namespace Vw
open PySem PySem.Spec PyProof.Rows L2
open C8 (pss_cut tCut)

theorem hu12 {A : Around} {k : Nat} (hr : Room k A) : A.units + 12 < cLine := by
  have := hr.un
  omega
section
variable {P : Program} {w : World} {K : PySem.W.Frag} {mg : Str → Option Value} {base : Heap} {f : Addr} {fd : FuncData} {k : Nat}
theorem sc_law_row : FnScope ["_law_lines_here", "_law_answers_here", "_law_turns", "_law_reads", "_law_found"] ["_law_lines_here", "_law_answers_here", "_law_turns", "_law_reads"] (defScope (Vh.top 24)) := ⟨rfl, rfl, rfl, by decide +kernel, rfl, by decide +kernel, by decide +kernel⟩
theorem ok_row {n : Nat} (F : Fun K "_law_row" "_law_row" (Vh.top 24) f fd) (B : Blt mg) (C_law_brought : Cl P w K mg base k "_law_brought" (spBrought n P w)) :
    FnOk P w K mg base CX0 (k + 1) f fd ["_law_lines_here", "_law_answers_here", "_law_turns", "_law_reads"] (spRow n) := by
  refine F.ok sc_law_row (fun vs H Q E h => ?_) (fun cdv A outer s H vs Q E hr h => ?_)
  · obtain ⟨v, _, _, _, _, _, _, _, _, _, _, rfl, _⟩ := h
    rfl
  obtain ⟨v, a, tr, r, ts, nms, N, m, wd, x, ls, rfl, hm, hN, hx, A0, hl, hd, q⟩ := h
  refine ⟨_, (pss_cons (ps_set (i := 4) sc_law_row.nd rfl (Or.inl rfl) (pe_lst pa_nil))
  (pss_cons (ps_expr (pe_cl C_law_brought hr (by rfl) (pa_cons (pv 0) (pa_cons (pe_tup (pa_cons (pv 1) (pa_cons (pv 3) pa_nil))) (pa_cons (pv 2) (pa_cons (pv 4) (pa_cons pe_lnew pa_nil)))))))
  (pss_one (ps_ret (pe_callTy call_tuple_of (by rfl) B.tuple_ (by decide +kernel) (pa_cons (pv 4) pa_nil)))))), ?_⟩
  refine ⟨szb, fun fa hfa => ?_⟩
  have A1 := A0.new hfa (.lst [])
  refine ⟨_, rfl, _, rfl, _, rfl, szb, fun qa hqa => ?_⟩
  have A2 := A1.new hqa (.tup [.ref a, .ref r])
  have k2 : Kp [] H (upd (upd H fa (.lst [])) qa (.tup [.ref a, .ref r])) := (Kp.new hfa).trans (.new hqa)
  have eq2 : (upd (upd H fa (.lst [])) qa (.tup [.ref a, .ref r])) qa = some (.tup [.ref a, .ref r]) := upd_same
  have ef2 : (upd (upd H fa (.lst [])) qa (.tup [.ref a, .ref r])) fa = some (.lst []) := same_new hqa _ _ _ upd_same
  generalize upd (upd H fa (.lst [])) qa (.tup [.ref a, .ref r]) = H2 at *
  refine ⟨_, rfl, _, rfl, fun ca H3 hca k3 L3 => ?_⟩
  have s3 : Same H2 H3 := k3.nil fun b hb => by rw [List.mem_singleton.mp hb]; exact hca
  have A3 := A2.same s3
  have b3 : BI P w H3 fa ca nms m 0 0 := ⟨.nil, [], [], ⟨trivial, trivial, Nat.zero_le _, Nat.le_refl _, Nat.le_refl _⟩, s3 _ _ ef2, .nil, L3, ⟨(fun _ h => nomatch h), Nat.le_refl _, fun _ h => nomatch h⟩⟩
  refine ⟨v, qa, a, tr, r, fa, ca, ts, nms, N, m, m, wd, x, 0, 0, ls, rfl, hm, hN, Nat.le_refl _, by omega, A3, .inl (s3 _ _ eq2), b3, hl, Same.dat s3 (k2.dat hd), fun H4 b4 k4 R4 => ?_⟩
  obtain ⟨rr, xs, kvs, hrr, e4, d4, _, _⟩ := b4
  refine ⟨_, rfl, fa, xs, rfl, .inl ⟨.of e4, fun u hu => ?_⟩⟩
  rw [Nat.zero_add, Nat.zero_add] at hrr
  refine q _ rr _ hrr (.made hu d4) ?_ (R4.same (same_new hu _))
  have k24 : Kp [r, fa, ca] H H4 := (k2.sub (fun b h => nomatch h)).trans ((Kp.same s3).trans k4)
  refine (k24.trans (.new hu)).drop fun b hb => ?_
  simp at hb
  rcases hb with rfl | rfl | rfl
  · exact .inl (by simp)
  · exact .inr hfa
  · exact .inr (k2.frs _ hca)

theorem relock {H H' : Hp} {d : Addr} {od : Obj} {u : HO} (s : Same (upd H d (.frz od u)) H') (e : H d = some u) : Same H (upd H' d u) := fun b o h => by
  by_cases q : b = d
  · subst q
    rw [e] at h
    cases h
    exact upd_same
  · rw [upd_ne q]
    exact s _ _ (by rw [upd_ne q]; exact h)
/-- ((text, text), int), as sorted wants it -/
def TI (H : Hp) (x : V) : Prop := ∃ t k y z i, x = V.ref t ∧ H t = some (.tup [.ref k, .int i]) ∧ H k = some (.tup [.str y, .str z])
theorem TI.same {H H' : Hp} {x : V} (h : TI H x) (s : Same H H') : TI H' x := by
  obtain ⟨t, k, y, z, i, rfl, e1, e2⟩ := h
  exact ⟨t, k, y, z, i, rfl, s _ _ e1, s _ _ e2⟩
theorem TI.put {H : Hp} {x : V} {A : Addr} {u : HO} (h : TI H x) (e : H A = some u) (n : ∀ xs, u ≠ .tup xs) (o : HO) : TI (upd H A o) x := by
  obtain ⟨t, k, y, z, i, rfl, e1, e2⟩ := h
  exact ⟨t, k, y, z, i, rfl, by rw [upd_ne (ne_of e1 e fun z => n _ z.symm)]; exact e1, by rw [upd_ne (ne_of e2 e fun z => n _ z.symm)]; exact e2⟩
theorem TI.dats {H : Hp} : ∀ {ys : List V}, (∀ y ∈ ys, TI H y) → ∃ es, Dats H ys es
  | [], _ => ⟨[], .nil⟩
  | y :: ys, h => by
    obtain ⟨es, d⟩ := TI.dats (ys := ys) fun z m => h z (List.mem_cons_of_mem _ m)
    obtain ⟨t, k, x, z, i, rfl, e1, e2⟩ := h y (List.mem_cons_self ..)
    exact ⟨.tup [.tup [.str x, .str z], .int i] :: es, .cons (.tup (.inl e1) (.cons (.tup (.inl e2) (.cons .str (.cons .str .nil))) (.cons .int .nil))) d⟩
theorem askKeys_form {k : List Key} (h : k ∈ askKeys) : ∃ y z : Str, k = [.inr y, .inr z] := by
  obtain ⟨y, _, h2⟩ := List.mem_flatMap.mp h
  obtain ⟨z, _, rfl⟩ := List.mem_map.mp h2
  exact ⟨y, z, rfl⟩
theorem valV_isSome {κ : Type} [DecidableEq κ] {kvs : List (κ × V)} {k : κ} {v : V} (h : (k, v) ∈ kvs) : ∃ v', valV kvs k = some v' := by
  cases e : valV kvs k with
  | some v' => exact ⟨v', rfl⟩
  | none => exact absurd (List.mem_map.mpr ⟨_, h, rfl⟩) (valV_not e)

def spPiece : Sp := fun vs H Q _ => ∃ (v : V) (a : Addr) (names : List Str) (i : Nat) (d : D), vs = [v, .ref a] ∧ Ans H a ∧ PartOk names i d ∧ Dat H v d ∧
  ∀ v' rr rds wks H', Rw (names.drop (i + 1)) 7 (if i = 0 then 18 else 2) 48 rr → Dat H' v' (.tup [.tup rds, .tup rr.D, .tup wks]) → Same H H' → Q v' H'
theorem sc_law_piece : FnScope ["_law_part_here", "_law_answers_here", "_law_reads", "_law_row_here", "_law_works", "_law_name", "_law_one", "_law_what"] ["_law_part_here", "_law_answers_here"] (defScope (Vh.top 25)) := ⟨rfl, rfl, rfl, by decide +kernel, rfl, by decide +kernel, by decide +kernel⟩
theorem ok_piece (F : Fun K "_law_piece" "_law_piece" (Vh.top 25) f fd) (B : Blt mg) (C_law_reckoned : Cl P w K mg base k "_law_reckoned" (spReck 3)) (C_law_row : Cl P w K mg base k "_law_row" (spRow 8)) :
    FnOk P w K mg base CX0 (k + 1) f fd ["_law_part_here", "_law_answers_here"] spPiece := by
  refine F.ok sc_law_piece (fun vs H Q E h => ?_) (fun cdv A outer s H vs Q E hr h => ?_)
  · obtain ⟨v, _, _, _, _, rfl, _⟩ := h
    rfl
  obtain ⟨v, a, names, i, d, rfl, A0, ⟨nm, first, works, lines, wd, x, hnm, rfl, hf, hfl, hwk, hwl, hl, hll, hwd, hx⟩, hd, q⟩ := h
  refine ⟨_, (pss_cons (ps_set (i := 2) sc_law_piece.nd rfl (Or.inr rfl) pe_dnewT)
  (pss_cons (ps_set (i := 3) sc_law_piece.nd rfl (Or.inl rfl) (pe_cl C_law_row hr (by rfl) (pa_cons (pe_ix ix_tup (pv 0) pe_int (fun _ _ => rfl)) (pa_cons (pv 1) (pa_cons pe_dnewK (pa_cons (pv 2) pa_nil))))))
  (pss_cons (ps_set (i := 4) sc_law_piece.nd rfl (Or.inl rfl) (pe_callTy call_tuple_of (by rfl) B.tuple_ (by decide +kernel) (pa_cons (pe_lc (own := [("_law_name", 5), ("_law_one", 6)]) (g := (gTup K 2 (gCons (gName 5) (gCons (gName 6) gNil)))) (by rfl) sc_law_piece.nd (pi_tup (pe_ix ix_tup (pv 0) pe_int (fun _ _ => rfl))) (blkOk_by (own := [("_law_name", 5), ("_law_one", 6)]) (N := ["_law_part_here", "_law_answers_here", "_law_reads", "_law_row_here", "_law_works", "_law_name", "_law_one", "_law_what"]) (sc := defScope (Vh.top 25)) (by decide +kernel)) (fun _ _ _ _ _ => (pg_tup rfl (pgs_cons (pg_name (i := 5) sc_law_piece.nd rfl (.inl rfl)) (pgs_cons (pg_name (i := 6) sc_law_piece.nd rfl (.inl rfl)) pgs_nil)))) (fun _ _ _ _ _ => pts_nil) (fun _ _ _ _ _ => (pe_tup (pa_cons (pv 5) (pa_cons (pe_cl C_law_reckoned hr (by rfl) (pa_cons (pv 6) (pa_cons (pv 1) (pa_cons pe_dnewK (pa_cons (pv 2) pa_nil))))) pa_nil))))) pa_nil)))
  (pss_one (ps_ret (pe_tup (pa_cons (pe_callTy call_tuple_of (by rfl) B.tuple_ (by decide +kernel) (pa_cons (pe_callB (cr_sortedTI (hu12 hr)) (by rfl) B.sorted_ (by decide +kernel) (pa_cons (pe_lock (pe_lc (own := [("_law_what", 7)]) (g := (gName 7)) (by rfl) sc_law_piece.nd (pi_keys (pv 2)) (blkOk_by (own := [("_law_what", 7)]) (N := ["_law_part_here", "_law_answers_here", "_law_reads", "_law_row_here", "_law_works", "_law_name", "_law_one", "_law_what"]) (sc := defScope (Vh.top 25)) (by decide +kernel)) (fun _ _ _ _ _ => (pg_name (i := 7) sc_law_piece.nd rfl (.inl rfl))) (fun _ _ _ _ _ => pts_nil) (fun _ _ _ _ _ => (pe_tup (pa_cons (pv 7) (pa_cons (pe_dget (hu_of hr) (pv 2) (pv 7) (fun _ _ => rfl)) pa_nil)))))) pa_nil)) pa_nil)) (pa_cons (pv 3) (pa_cons (pv 4) pa_nil))))))))), ?_⟩
  obtain ⟨b, y0, y1, y2, y3, rfl, eb, d0, d1, d2, d3⟩ := hd.four
  obtain ⟨wb, wxs, rfl, ewb, dwb⟩ := d2.tup_inv
  refine fun r hr => ?_
  have s1 := same_new hr (.dT [])
  have er1 : (upd H r (.dT [])) r = some (.dT []) := upd_same
  have har : a ≠ r := by
    obtain ⟨_, ea, _⟩ := A0
    exact ne_of_none ea hr
  generalize upd H r (.dT []) = H1 at *
  refine ⟨_, rfl, b, _, _, _, rfl, rfl, .inl (Same.rd s1 eb), rfl, _, rfl, fun tr htr => ?_⟩
  have s2 := s1.trans (same_new htr (.dK []))
  have A2 : Ask (upd H1 tr (.dK [])) a tr r [] 0 := by
    have s := same_new htr (.dK [])
    refine ⟨A0.kp (ms := []) (.same s2) (by simp), ⟨[], upd_same, Nat.le_refl _, fun _ h => nomatch h⟩, ⟨[], s _ _ er1, .nil⟩, har⟩
  generalize upd H1 tr (.dK []) = H2 at *
  refine ⟨_, rfl, y3, a, tr, r, [], names.drop (i + 1), 0, 7, wd, x, lines, rfl, by decide, by decide, by omega, A2, hl, Same.dat s2 d3, fun rv rr H3 hrr drv k3 R3 => ?_⟩
  have A3 := A2.kp k3 R3
  have eb3 := k3.tup _ _ (Same.rd s2 eb)
  have ewb3 := k3.tup _ _ (Same.rd s2 ewb)
  -- works
  refine ⟨_, rfl, b, _, _, _, rfl, rfl, .inl eb3, rfl, wb, rfl, ⟨_, .inl ewb3⟩, fun A hA => ?_⟩
  refine lc_tup (K := K) (xs := wxs) (fun j H4 => GR r H3 A (fun _ => True) j H4) (.start hA R3) (fun j H4 _ g => .inl (g.1.tup _ _ ewb3)) (fun j y H4 hy g => ?_) fun H4 g => ?_
  · have hj := (List.getElem?_eq_some_iff.mp hy).1
    rw [dwb.len] at hj
    obtain ⟨cd, e1, e2⟩ := dwb.at hy
    obtain ⟨wn, rk, rfl, hrk⟩ := hwk cd (List.mem_of_getElem? e1)
    obtain ⟨c4, w0, w1, rfl, ec4, h0, h1⟩ := (g.1.dat (k3.dat (Same.dat s2 e2))).two
    obtain rfl := h0.str_inv
    refine ⟨c4, _, rfl, .inl ec4, rfl, _, _, rfl, _, _, rfl, rfl, ?_⟩
    refine ⟨rfl, ?_⟩
    refine ⟨_, rfl, _, rfl, _, rfl, fun t2 ht2 => ?_⟩
    have A4 := A3.kp g.1 g.2.1
    have A5 : Ask (upd H4 t2 (.dK [])) a t2 r [] 0 := by
      have A5 := A4.new ht2 (.dK [])
      exact ⟨A5.an, ⟨[], upd_same, Nat.le_refl _, fun _ h => nomatch h⟩, A5.rd, A5.ne⟩
    refine ⟨_, rfl, w1, a, t2, r, [], 0, 2, rk, rfl, by decide, A5, hrk, Same.dat (same_new ht2 _) h1, fun i2 H5 si k5 R5 => ?_⟩
    refine ⟨szb, fun u hu => ?_⟩
    exact g.push hA R3 (by omega) ((Kp.new ht2).trans (k5.trans (.new hu))) (R5.same (same_new hu _)) (.made hu (.cons .str (.cons .int .nil))) trivial
  obtain ⟨k4, R4, zs, es, e4, d4, l4, _⟩ := g
  refine ⟨A, zs, rfl, .inl ⟨.of e4, fun wv hwv => ?_⟩⟩
  have k5 : Kp [r] H3 (upd H4 wv (.tup zs)) := k4.trans (.new hwv)
  have R5 := R4.same (same_new hwv (.tup zs))
  have dwv : Dat (upd H4 wv (.tup zs)) (.ref wv) (.tup es) := .made hwv d4
  generalize upd H4 wv (.tup zs) = H5 at *
  have k25 : Kp [r] H2 H5 := k3.trans k5
  -- reads
  obtain ⟨rkvs, er5, hrd⟩ := id R5
  refine ⟨r, _, er5, trivial, fun od => ?_⟩
  have erl : (upd H5 r (.frz od (.dT rkvs))) r = some (.frz od (.dT rkvs)) := upd_same
  generalize hHl : upd H5 r (.frz od (.dT rkvs)) = Hl at *
  refine ⟨_, rfl, r, od, rfl, .inr ⟨rkvs, erl, fun A2 hA2 => ?_⟩⟩
  refine lc_it walk_keysT (fun j H6 => Kp [] Hl H6 ∧ ∃ ys, H6 A2 = some (.lst ys) ∧ ys.length = j ∧ ∀ y ∈ ys, TI H6 y) ⟨.new hA2, [], upd_same, rfl, fun _ h => nomatch h⟩ (fun j H6 _ g => g.1.frz _ _ _ erl) (fun j y H6 H6' hj g hY => ?_) fun H6 g => ?_
  · obtain ⟨k6, ys, e6, l6, t6⟩ := g
    obtain ⟨rfl, key, v0, qk, hkv, rfl, eqk⟩ := hY
    have hmem := List.mem_of_getElem? hkv
    obtain ⟨ky, kz, rfl⟩ := askKeys_form (hrd.ks _ (List.mem_map.mpr ⟨_, hmem, rfl⟩))
    obtain ⟨v', hv'⟩ := valV_isSome hmem
    obtain ⟨i7, rfl, si⟩ := hrd.vs.at hv'
    refine ⟨rfl, ?_⟩
    refine ⟨_, rfl, _, rfl, _, rfl, r, .int i7, rfl, .inr ⟨rkvs, _, qk, .inr ⟨od, k6.frz _ _ _ erl⟩, rfl, eqk, hv'.symm⟩, szb, fun u hu => ?_⟩
    have e7 : (upd H6' u (.tup [.ref qk, .int i7])) A2 = some (.lst ys) := same_new hu _ _ _ e6
    refine ⟨ys, e7, ?_, (k6.trans (.new hu)).putN hA2, ys ++ [.ref u], upd_same, by simp [l6], fun y m => ?_⟩
    · have := hrd.len
      rw [l6]; exact small1000 (by omega)
    · rcases List.mem_append.mp m with m | m
      · exact ((t6 y m).same (same_new hu _)).put e7 (fun _ z => nomatch z) _
      · rw [List.mem_singleton.mp m]
        exact TI.put ⟨u, qk, ky, kz, i7, rfl, upd_same, same_new hu _ _ _ eqk⟩ e7 (fun _ z => nomatch z) _
  · obtain ⟨k6, ys, e6, l6, t6⟩ := g
    have er6 := k6.frz _ _ _ erl
    refine ⟨er6, ?_⟩
    have s7 : Same H5 (upd H6 r (.dT rkvs)) := relock (by rw [hHl]; exact k6.toSame) er5
    have rA : A2 ≠ r := (ne_of_none erl hA2).symm
    have e7 : (upd H6 r (.dT rkvs)) A2 = some (.lst ys) := by rw [upd_ne rA]; exact e6
    have t7 : ∀ y ∈ ys, TI (upd H6 r (.dT rkvs)) y := fun y m => (t6 y m).put er6 (fun _ z => nomatch z) _
    generalize upd H6 r (.dT rkvs) = H7 at *
    refine ⟨A2, ys, rfl, .of e7, t7, fun os p hp hpn => ?_⟩
    have t8 : ∀ z ∈ os, TI (upd H7 p (.lst os)) z := fun z m => (t7 z (hp.mem_iff.mp m)).same (same_new hpn _)
    obtain ⟨rds, drd⟩ := TI.dats t8
    refine ⟨p, os, rfl, .inl ⟨.of upd_same, fun u hu => ?_⟩⟩
    refine ⟨_, rfl, _, rfl, szb, fun u2 hu2 => ?_⟩
    have s58 : Same H5 (upd (upd H7 p (.lst os)) u (.tup os)) := s7.trans ((same_new hpn _).trans (same_new hu _))
    refine q _ rr rds es _ ⟨hrr.wf, hrr.nm, hrr.dep, Nat.le_trans hrr.np hwd, Nat.le_trans hrr.sz hx⟩ (.made hu2 (.cons (.made hu drd) (.cons (Same.dat s58 (k5.dat drv)) (.cons (Same.dat s58 dwv) .nil)))) ?_
    have kf : Kp [r] H (upd (upd (upd H7 p (.lst os)) u (.tup os)) u2 (.tup [.ref u, rv, .ref wv])) := (Kp.same s2).trans (k25.trans ((Kp.same s58).trans (.new hu2)))
    exact kf.nil fun b hb => by rw [List.mem_singleton.mp hb]; assumption
end
end Vw

set_option maxHeartbeats 4000000
/-! downs, the parts of a row -/
namespace Vw
open PySem PySem.Spec PyProof.Rows L2
open C8 (pss_cut tCut)

theorem catD {K : PySem.W.Frag} {a b : Addr} {xs ys : List V} {H : Hp} {Q : VK} (h1 : Rd H a (.tup xs)) (h2 : Rd H b (.tup ys)) (hz : xs.length + ys.length ≤ sizeLine) (q : ∀ c H', Same H H' → Rd H' c (.tup (xs ++ ys)) → Q (.ref c) H') :
    rCatA K (.ref a) (.ref b) H Q :=
  ⟨a, b, xs, ys, rfl, rfl, .inl h1, .inl h2, hz, fun e => q b H (.refl H) (by rw [e]; exact h2), fun _ e => q a H (.refl H) (by rw [e, List.append_nil]; exact h1), fun _ _ p hp => q p _ (same_new hp _) (.inl upd_same)⟩
/-- a pair (text, int) -/
def SR (H : Hp) (x : V) : Prop := ∃ t y i, x = V.ref t ∧ Rd H t (.tup [.str y, .int i]) ∧ Sm i
theorem SI.sr {H : Hp} {x : V} (h : SI H x) : SR H x := let ⟨t, y, i, e, h, s⟩ := h; ⟨t, y, i, e, .inl h, s⟩
theorem SR.kp {ms : List Addr} {H H' : Hp} {x : V} (h : SR H x) (k : Kp ms H H') : SR H' x := let ⟨t, y, i, e, h, s⟩ := h; ⟨t, y, i, e, k.tup _ _ h, s⟩
theorem SR.dats {H : Hp} : ∀ {ys : List V}, (∀ y ∈ ys, SR H y) → ∃ es, Dats H ys es ∧ (∀ e ∈ es, PrI e) ∧ es.length = ys.length
  | [], _ => ⟨[], .nil, (fun _ h => nomatch h), rfl⟩
  | y :: ys, h => by
    obtain ⟨es, d, q, l⟩ := SR.dats (ys := ys) fun z m => h z (List.mem_cons_of_mem _ m)
    obtain ⟨t, x, i, rfl, e, s⟩ := h y (List.mem_cons_self ..)
    refine ⟨.tup [.str x, .int i] :: es, .cons (.tup e (.cons .str (.cons .int .nil))) d, fun z m => ?_, by simp [l]⟩
    rcases List.mem_cons.mp m with rfl | m
    · exact ⟨x, i, rfl, s⟩
    · exact q z m
/-- downs: a tuple of at most n pairs -/
def Dn (H : Hp) (n : Nat) (a : Addr) : Prop := ∃ xs, TupD H a xs ∧ xs.length ≤ n ∧ ∀ x ∈ xs, SR H x
theorem Dn.kp {ms : List Addr} {H H' : Hp} {n : Nat} {a : Addr} (h : Dn H n a) (k : Kp ms H H') : Dn H' n a := let ⟨xs, t, l, s⟩ := h; ⟨xs, t.kp k, l, fun x m => (s x m).kp k⟩
theorem Dn.same {H H' : Hp} {n : Nat} {a : Addr} (h : Dn H n a) (s : Same H H') : Dn H' n a := h.kp (ms := []) (.same s)
theorem Dn.up {H : Hp} {n m : Nat} {a : Addr} (h : Dn H n a) (e : n ≤ m) : Dn H m a := let ⟨xs, t, l, s⟩ := h; ⟨xs, t, Nat.le_trans l e, s⟩
theorem Dn.dat {H : Hp} {n : Nat} {a : Addr} (h : Dn H n a) : ∃ es, Dat H (.ref a) (.tup es) ∧ (∀ e ∈ es, PrI e) ∧ es.length ≤ n := by
  obtain ⟨xs, t, l, s⟩ := h
  obtain ⟨es, d, q, e⟩ := SR.dats s
  exact ⟨es, .tup t.rd d, q, by omega⟩
/-- a dict of small numbers by texts -/
def SD (kvs : List (Key × V)) : Prop := ∀ kv ∈ kvs, (∃ y, kv.1 = .inr y) ∧ ∃ i, kv.2 = .int i ∧ Sm i
theorem SD.put {kvs : List (Key × V)} {y : Str} {i : Int} (h : SD kvs) (s : Sm i) : SD (putK kvs (.inr y) (.int i)) := fun kv m => by
  rcases mem_putK m with e | e
  · rw [e]; exact ⟨⟨y, rfl⟩, i, rfl, s⟩
  · exact h _ e
theorem SD.merge : ∀ {more kvs : List (Key × V)}, SD kvs → SD more → SD (mergeK kvs more)
  | [], kvs, h, _ => h
  | kv :: more, kvs, h, q => by
    obtain ⟨⟨y, e1⟩, i, e2, s⟩ := q kv (List.mem_cons_self ..)
    have : mergeK kvs (kv :: more) = mergeK (putK kvs kv.1 kv.2) more := rfl
    rw [this]
    refine SD.merge ?_ fun x m => q x (List.mem_cons_of_mem _ m)
    rw [e1, e2]
    exact h.put s
theorem SR.pairs {K : PySem.W.Frag} {H : Hp} : ∀ {xs : List V}, (∀ x ∈ xs, SR H x) → ∃ (ps : List Addr) (kvs : List (Key × V)), xs = ps.map V.ref ∧ Paired (fun p kv => SqT K H p [kV kv.1, kv.2]) ps kvs ∧ SD kvs ∧ kvs.length = xs.length
  | [], _ => ⟨[], [], rfl, .nil, (fun _ h => nomatch h), rfl⟩
  | x :: xs, h => by
    obtain ⟨ps, kvs, e, p, s, l⟩ := SR.pairs (K := K) (xs := xs) fun z m => h z (List.mem_cons_of_mem _ m)
    obtain ⟨t, y, i, rfl, et, si⟩ := h x (List.mem_cons_self ..)
    refine ⟨t :: ps, (.inr y, .int i) :: kvs, by rw [e]; rfl, .cons (.inl et) p, fun kv m => ?_, by simp [l]⟩
    rcases List.mem_cons.mp m with rfl | m
    · exact ⟨⟨y, rfl⟩, i, rfl, si⟩
    · exact s kv m

section
variable {P : Program} {w : World} {K : PySem.W.Frag} {mg : Str → Option Value} {base : Heap} {f : Addr} {fd : FuncData} {k : Nat}
def spOver : Sp := fun vs H Q _ => ∃ (da : Addr) (mv : V) (n : Nat) (ms : List D), vs = [.ref da, mv] ∧ Dn H n da ∧ Dat H mv (.tup ms) ∧ (∀ m ∈ ms, PrI m) ∧ n + ms.length ≤ 1000 ∧
  ∀ db H', Dn H' (n + ms.length) db → Same H H' → Q (.ref db) H'
theorem sc_law_over : FnScope ["_law_downs", "_law_more", "_law_found", "_law_name", "_law_number_here"] ["_law_downs", "_law_more"] (defScope (Vh.top 26)) := ⟨rfl, rfl, rfl, by decide +kernel, rfl, by decide +kernel, by decide +kernel⟩
theorem ok_over (F : Fun K "_law_over" "_law_over" (Vh.top 26) f fd) (B : Blt mg) : FnOk P w K mg base CX0 (k + 1) f fd ["_law_downs", "_law_more"] spOver := by
  refine F.ok sc_law_over (fun vs H Q E h => ?_) (fun cdv A outer s H vs Q E hr h => ?_)
  · obtain ⟨da, mv, _, _, rfl, _⟩ := h
    rfl
  obtain ⟨da, mv, n, ms, rfl, ⟨xs, ht, hxl, hxs⟩, hmv, hms, hn, q⟩ := h
  refine ⟨_, (pss_cons (ps_set (i := 2) sc_law_over.nd rfl (Or.inr rfl) (pe_callTy (call_dictT rfl) (by rfl) B.dict_ (by decide +kernel) (pa_cons (pv 0) pa_nil)))
  (pss_cons (ps_for PassesOwn.never rfl (pi_tup (pv 1)) (pg_tup rfl (pgs_cons (pg_name (i := 3) sc_law_over.nd rfl (.inl rfl)) (pgs_cons (pg_name (i := 4) sc_law_over.nd rfl (.inl rfl)) pgs_nil))) (pss_one (ps_dput (hu_of hr) (pv 2) (pv 3) (pv 4) rfl)))
  (pss_one (ps_ret (pe_callTy call_tuple_ofF (by rfl) B.tuple_ (by decide +kernel) (pa_cons (pe_callB cr_sortedSI (by rfl) B.sorted_ (by decide +kernel) (pa_cons (pe_lock (pe_lc (own := [("_law_name", 3)]) (g := (gName 3)) (by rfl) sc_law_over.nd (pi_keys (pv 2)) (blkOk_by (own := [("_law_name", 3)]) (N := ["_law_downs", "_law_more", "_law_found", "_law_name", "_law_number_here"]) (sc := defScope (Vh.top 26)) (by decide +kernel)) (fun _ _ _ _ _ => (pg_name (i := 3) sc_law_over.nd rfl (.inl rfl))) (fun _ _ _ _ _ => pts_nil) (fun _ _ _ _ _ => (pe_tup (pa_cons (pv 3) (pa_cons (pe_dget (hu_of hr) (pv 2) (pv 3) (fun _ _ => rfl)) pa_nil)))))) pa_nil)) pa_nil)))))), ?_⟩
  obtain ⟨mb, mxs, rfl, emb, dmb⟩ := hmv.tup_inv
  obtain ⟨ps, kvs0, rfl, hpair, hsd, hkl⟩ := SR.pairs (K := K) hxs
  refine ⟨_, rfl, da, ps, kvs0, rfl, ht, hpair, fun p hp => ?_⟩
  have l0 := length_mergeK kvs0 []
  have e1 : (upd H p (.dK (mergeK [] kvs0))) p = some (.dK (mergeK [] kvs0)) := upd_same
  refine ⟨_, rfl, mb, rfl, ⟨_, .inl (Same.rd (same_new hp _) emb)⟩, ?_⟩
  refine for_tup (K := K) (xs := mxs) (fun i σ H3 => (∃ y3 y4, σ = [some (.ref da), some (.ref mb), some (.ref p), y3, y4]) ∧ Kp [] H H3 ∧ ∃ kvs, H3 p = some (.dK kvs) ∧ SD kvs ∧ kvs.length ≤ n + i)
    ⟨⟨_, _, rfl⟩, .new hp, _, e1, SD.merge (fun _ h => nomatch h) hsd, by simp at l0 hxl hkl; omega⟩ (fun i σ H3 _ hP => .inl (hP.2.1.tup _ _ emb)) (fun i y σ H3 hy hP => ?_) fun σ H3 hP => ?_
  · obtain ⟨⟨y3, y4, rfl⟩, k3, kvs, e3, s3, l3⟩ := hP
    have hi := (List.getElem?_eq_some_iff.mp hy).1
    rw [dmb.len] at hi
    obtain ⟨d, hd1, hd2⟩ := dmb.at hy
    obtain ⟨nm, i2, rfl, si⟩ := hms d (List.mem_of_getElem? hd1)
    obtain ⟨c, z1, z2, rfl, ec, f1, f2⟩ := (k3.dat hd2).two
    obtain rfl := f1.str_inv
    obtain rfl := f2.int_inv
    refine ⟨c, _, rfl, .inl ec, rfl, _, _, rfl, _, _, rfl, rfl, ?_⟩
    refine ⟨_, rfl, _, rfl, _, rfl, p, _, rfl, DPut.k (k := Sum.inr nm) e3 (small1000 (by omega)), ⟨_, _, rfl⟩, k3.putN hp, _, upd_same, s3.put si, ?_⟩
    have := length_putK kvs (Sum.inr nm) (.int i2)
    omega
  · obtain ⟨⟨y3, y4, rfl⟩, k3, kvs, e3, s3, l3⟩ := hP
    rw [dmb.len] at l3
    refine ⟨p, _, e3, trivial, fun od => ?_⟩
    have erl : (upd H3 p (.frz od (.dK kvs))) p = some (.frz od (.dK kvs)) := upd_same
    generalize hHl : upd H3 p (.frz od (.dK kvs)) = Hl at *
    refine ⟨_, rfl, p, od, rfl, .inl ⟨kvs, erl, fun A2 hA2 => ?_⟩⟩
    refine lc_it walk_keys (fun j H6 => Kp [] Hl H6 ∧ ∃ ys, H6 A2 = some (.lst ys) ∧ ys.length = j ∧ ∀ y ∈ ys, SI H6 y) ⟨.new hA2, [], upd_same, rfl, fun _ h => nomatch h⟩ (fun j H6 _ g => g.1.frz _ _ _ erl) (fun j y H6 H6' hj g hY => ?_) fun H6 g => ?_
    · obtain ⟨k6, ys, e6, l6, t6⟩ := g
      obtain ⟨rfl, key, v0, hkv, rfl⟩ := hY
      have hmem := List.mem_of_getElem? hkv
      obtain ⟨⟨yk, hyk⟩, _⟩ := s3 _ hmem
      have hyk : key = Sum.inr yk := hyk
      subst hyk
      obtain ⟨v', hv'⟩ := valV_isSome hmem
      obtain ⟨_, i7, e7', si⟩ := s3 _ (valV_mem hv')
      have e7' : v' = .int i7 := e7'
      subst e7'
      refine ⟨rfl, ?_⟩
      refine ⟨_, rfl, _, rfl, _, rfl, p, .int i7, rfl, .inl ⟨kvs, .inr yk, .inr ⟨od, k6.frz _ _ _ erl⟩, rfl, hv'.symm⟩, szb, fun u hu => ?_⟩
      have e7 : (upd H6' u (.tup [.str yk, .int i7])) A2 = some (.lst ys) := same_new hu _ _ _ e6
      refine ⟨ys, e7, ?_, (k6.trans (.new hu)).putN hA2, ys ++ [.ref u], upd_same, by simp [l6], fun y m => ?_⟩
      · rw [l6]; exact small1000 (by omega)
      · rcases List.mem_append.mp m with m | m
        · exact ((t6 y m).same (same_new hu _)).lst e7 _
        · rw [List.mem_singleton.mp m]
          exact SI.lst ⟨u, yk, i7, rfl, upd_same, si⟩ e7 _
    · obtain ⟨k6, ys, e6, l6, t6⟩ := g
      have er6 := k6.frz _ _ _ erl
      refine ⟨er6, ?_⟩
      have s7 : Same H3 (upd H6 p (.dK kvs)) := relock (by rw [hHl]; exact k6.toSame) e3
      have rA : A2 ≠ p := (ne_of_none erl hA2).symm
      have e7 : (upd H6 p (.dK kvs)) A2 = some (.lst ys) := by rw [upd_ne rA]; exact e6
      have t7 : ∀ y ∈ ys, SI (upd H6 p (.dK kvs)) y := fun y m => by
        obtain ⟨t, x, i, rfl, et, si⟩ := t6 y m
        exact ⟨t, x, i, rfl, by rw [upd_ne (ne_of et er6 fun z => nomatch z)]; exact et, si⟩
      generalize upd H6 p (.dK kvs) = H7 at *
      refine ⟨A2, ys, rfl, .of e7, fun x m => let ⟨t, y, i, e1, e2, _⟩ := t7 x m; ⟨t, y, i, e1, e2⟩, fun os p2 hp2 hpn => ?_⟩
      refine ⟨p2, os, rfl, .of upd_same, fun u o hu ho => ?_⟩
      have sf : Same H7 (upd (upd H7 p2 (.lst os)) u (.frz o (.tup os))) := (same_new hpn _).trans (same_new hu _)
      refine q u _ ⟨os, ⟨o, upd_same, ho⟩, ?_, fun x m => ((t7 x (hp2.mem_iff.mp m)).same sf).sr⟩ ((k3.toSame.trans s7).trans sf)
      rw [hp2.length_eq, l6]
      exact l3

/-- a part told of: its path, its name, what is given, the downs -/
def Prt (H : Hp) (nms : List Str) (n : Nat) (q : List Spot) (x : V) : Prop := ∃ (a : Addr) (hv : V) (nm : Str) (gv : V) (gs : List D) (da : Addr), x = .ref a ∧ Rd H a (.tup [hv, .str nm, gv, .ref da]) ∧ Dat H hv (pathD q) ∧ nm ∈ nms ∧ Dat H gv (.tup gs) ∧ (∀ g ∈ gs, PrI g) ∧ gs.length ≤ 100 ∧ Dn H n da
theorem Prt.kp {ms : List Addr} {H H' : Hp} {nms : List Str} {n : Nat} {q : List Spot} {x : V} (h : Prt H nms n q x) (k : Kp ms H H') : Prt H' nms n q x := by
  obtain ⟨a, hv, nm, gv, gs, da, e, ea, d1, h1, d2, h2, h3, h4⟩ := h
  exact ⟨a, hv, nm, gv, gs, da, e, k.tup _ _ ea, k.dat d1, h1, k.dat d2, h2, h3, h4.kp k⟩
theorem Prt.up {H : Hp} {nms : List Str} {n m : Nat} {q : List Spot} {x : V} (h : Prt H nms n q x) (e : n ≤ m) : Prt H nms m q x := by
  obtain ⟨a, hv, nm, gv, gs, da, e1, ea, d1, h1, d2, h2, h3, h4⟩ := h
  exact ⟨a, hv, nm, gv, gs, da, e1, ea, d1, h1, d2, h2, h3, h4.up e⟩
theorem Paired.app {α β : Type} {F : α → β → Prop} : ∀ {a1 a2 : List α} {b1 b2 : List β}, Paired F a1 b1 → Paired F a2 b2 → Paired F (a1 ++ a2) (b1 ++ b2)
  | _, _, _, _, .nil, k => k
  | _, _, _, _, .cons h t, k => .cons h (Paired.app t k)
def spParts (n : Nat) : Sp := fun vs H Q _ => ∃ (rv sv : V) (da : Addr) (rr : R) (b : List Spot) (nms : List Str) (m : Nat), vs = [rv, sv, .ref da] ∧ rr.dep < n ∧ m + rr.dep ≤ 100 ∧ rr.np ≤ 1000 ∧ b.length + rr.dep ≤ 500 ∧ rr.Nm nms ∧ Dat H rv (.tup rr.D) ∧ Dat H sv (pathD b) ∧ Dn H m da ∧
  ∀ A xs H', H' A = some (.lst xs) → Paired (Prt H' nms (m + rr.dep)) (rr.pts b) xs → Same H H' → H A = none → Q (.ref A) H'
/-- where the walk over a row stands -/
structure Pi (H H3 : Hp) (nms : List Str) (n : Nat) (b : List Spot) (rr : R) (i : Nat) (A : Addr) : Prop where
  ex : ∃ (rest : R) (ps : List (List Spot)) (xs : List V), rest.D = rr.D.drop i ∧ rest.Nm nms ∧ rest.dep ≤ rr.dep ∧ rest.np + ps.length ≤ rr.np ∧ ps ++ rest.pts b = rr.pts b ∧ H3 A = some (.lst xs) ∧ Paired (Prt H3 nms n) ps xs
  nw : H A = none
  k : Kp [] H H3
end
end Vw

set_option maxHeartbeats 4000000
/-! the parts of a row -/
namespace Vw
open PySem PySem.Spec PyProof.Rows L2
open C8 (pss_cut tCut)

theorem pathD_snoc (b : List Spot) (s : Spot) : pathD (b ++ [s]) = .tup (b.map spotD ++ [spotD s]) := by simp [pathD]
/-- a path longer by one -/
theorem hereD {K : PySem.W.Frag} {H : Hp} {a u : Addr} {b : List Spot} {s : Spot} {y : V} {Q : VK} (hs : Dat H (.ref a) (pathD b)) (hy : Dat H y (spotD s)) (hu : H u = none) (hb : b.length ≤ 500)
    (q : ∀ c H', Same H H' → Dat H' (.ref c) (pathD (b ++ [s])) → Q (.ref c) H') : rCatA K (.ref a) (.ref u) (upd H u (.tup [y])) Q := by
  obtain ⟨a', xs, e, ea, da⟩ := hs.tup_inv
  cases e
  have s1 := same_new hu (.tup [y])
  have hl := da.len
  rw [List.length_map] at hl
  refine catD (Same.rd s1 ea) (.inl upd_same) (sz _ (by show xs.length + 1 ≤ 1000; omega)) fun c H' s2 ec => q c H' (s1.trans s2) ?_
  rw [pathD_snoc]
  exact .tup ec ((Same.dats (s1.trans s2) da).append (.cons (Same.dat (s1.trans s2) hy) .nil))

section
variable {P : Program} {w : World} {K : PySem.W.Frag} {mg : Str → Option Value} {base : Heap} {f : Addr} {fd : FuncData} {k : Nat}
theorem sc_law_parts : FnScope ["_law_row_here", "_law_spots", "_law_downs", "_law_found", "_law_want", "_law_here"] ["_law_row_here", "_law_spots", "_law_downs"] (defScope (Vh.top 27)) := ⟨rfl, rfl, rfl, by decide +kernel, rfl, by decide +kernel, by decide +kernel⟩
theorem ok_parts {n : Nat} (F : Fun K "_law_parts" "_law_parts" (Vh.top 27) f fd) (B : Blt mg) (C_law_over : Cl P w K mg base k "_law_over" spOver) (C_law_parts : Cl P w K mg base k "_law_parts" (spParts n)) :
    FnOk P w K mg base CX0 (k + 1) f fd ["_law_row_here", "_law_spots", "_law_downs"] (spParts (n + 1)) := by
  refine F.ok sc_law_parts (fun vs H Q E h => ?_) (fun cdv A outer s H vs Q E hr h => ?_)
  · obtain ⟨rv, sv, da, _, _, _, _, rfl, _⟩ := h
    rfl
  obtain ⟨rv, sv, da, rr, b, nms, m, rfl, hdep, hm, hsz, hb, hnm, hrv, hsv, hdn, q⟩ := h
  refine ⟨_, (pss_cons (ps_set (i := 3) sc_law_parts.nd rfl (Or.inl rfl) (pe_lst pa_nil))
  (pss_cons (ps_for PassesOwn.never rfl (pi_tup (pv 0)) (pg_name (i := 4) sc_law_parts.nd rfl (.inl rfl)) (pss_cons (ps_set (i := 5) sc_law_parts.nd rfl (Or.inl rfl) (pe_op op_catA (pv 1) (pe_tup (pa_cons (pe_ix ix_tup (pv 4) pe_int (fun _ _ => rfl)) pa_nil))))
  (pss_cut (ps_if (pt_cmpR op_eq (pe_ix ix_tup (pv 4) pe_int (fun _ _ => rfl)) pe_str (nomark _)) (pss_one (ps_expr (pe_bm PySem.F.plainAttrs_list PySem.F.slot_list_append PySem.F.type_list_append mt_append (pv 3) (pa_cons (pe_tup (pa_cons (pv 5) (pa_cons (pe_ix ix_tup (pv 4) pe_int (fun _ _ => rfl)) (pa_cons (pe_ix ix_tup (pv 4) pe_int (fun _ _ => rfl)) (pa_cons (pv 2) pa_nil))))) pa_nil)))) pss_nil)
  (pss_cut (ps_if (pt_cmpR op_eq (pe_ix ix_tup (pv 4) pe_int (fun _ _ => rfl)) pe_str (nomark _)) (pss_one (ps_set (i := 3) sc_law_parts.nd rfl (Or.inl rfl) (pe_op op_cat (pv 3) (pe_cl C_law_parts hr (by rfl) (pa_cons (pe_ix ix_tup (pv 4) pe_int (fun _ _ => rfl)) (pa_cons (pv 5) (pa_cons (pe_cl C_law_over hr (by rfl) (pa_cons (pv 2) (pa_cons (pe_tup (pa_cons (pe_tup (pa_cons (pe_ix ix_tup (pv 4) pe_int (fun _ _ => rfl)) (pa_cons (pe_ix ix_tup (pv 4) pe_int (fun _ _ => rfl)) pa_nil))) pa_nil)) pa_nil))) pa_nil))))))) pss_nil)
  (pss_one (ps_if (pt_cmpR op_eq (pe_ix ix_tup (pv 4) pe_int (fun _ _ => rfl)) pe_str (nomark _)) (pss_one (ps_set (i := 3) sc_law_parts.nd rfl (Or.inl rfl) (pe_op op_cat (pv 3) (pe_cl C_law_parts hr (by rfl) (pa_cons (pe_ix ix_tup (pv 4) pe_int (fun _ _ => rfl)) (pa_cons (pv 5) (pa_cons (pv 2) pa_nil))))))) pss_nil))))))
  (pss_one (ps_ret (pv 3))))), ?_⟩
  obtain ⟨ra, rxs, rfl, era, dra⟩ := hrv.tup_inv
  obtain ⟨sa, sxs, rfl, esa, dsa⟩ := hsv.tup_inv
  refine ⟨szb, fun A0 hA0 => ?_⟩
  refine ⟨_, rfl, ra, rfl, ⟨_, .inl (Same.rd (same_new hA0 _) era)⟩, ?_⟩
  refine for_tup (K := K) (xs := rxs) (fun i σ H3 => ∃ A, (∃ y4 y5, σ = [some (.ref ra), some (.ref sa), some (.ref da), some (.ref A), y4, y5]) ∧ Pi H H3 nms (m + rr.dep) b rr i A)
    ⟨A0, ⟨_, _, rfl⟩, ⟨rr, [], [], rfl, hnm, Nat.le_refl _, Nat.le_refl _, rfl, upd_same, .nil⟩, hA0, .new hA0⟩ (fun i σ H3 _ ⟨_, _, g⟩ => .inl (g.k.tup _ _ era)) (fun i y σ H3 hy hP => ?_) fun σ H3 hP => ?_
  · obtain ⟨A, ⟨y4, y5, rfl⟩, ⟨rest, ps, xs, hD, hrn, hrd, hrp, hps, eA, pA⟩, hnw, k3⟩ := hP
    obtain ⟨d, hd1, hd2⟩ := dra.at hy
    have hi := (List.getElem?_eq_some_iff.mp hd1).1
    rw [List.drop_eq_getElem_cons hi, (List.getElem?_eq_some_iff.mp hd1).2] at hD
    have dd := k3.dat hd2
    have hsv3 := k3.dat hsv
    have pl : xs.length = ps.length := (Paired.length pA).symm
    cases rest with
    | nil => cases hD
    | part s name gives row0 next =>
      simp only [R.D, List.cons.injEq] at hD
      obtain ⟨rfl, hD⟩ := hD
      obtain ⟨hn1, hn2, hn3, hn4⟩ := hrn
      obtain ⟨c, y0, y1, y2, y3, rfl, ec, d0, d1, d2, d3⟩ := dd.four
      obtain rfl := d0.str_inv
      obtain rfl := d2.str_inv
      refine ⟨_, rfl, _, rfl, c, _, _, _, rfl, rfl, .inl ec, rfl, szb, fun u hu => ?_⟩
      refine hereD hsv3 d1 hu (by omega) fun hc H4 s4 dh => ?_
      have k4 : Kp [] H H4 := k3.trans (.same s4)
      refine ⟨fun σ' H' => σ' = [some (.ref ra), some (.ref sa), some (.ref da), some (.ref A), some (.ref c), some (.ref hc)] ∧ Rd H' c (.tup [.str "part", y1, .str name, y3]) ∧ Pi H H' nms (m + rr.dep) b rr (i + 1) A, ?_, ?_⟩
      · have ec4 := Same.rd s4 ec
        refine ⟨_, rfl, c, _, _, _, rfl, rfl, .inl ec4, rfl, rfl, _, rfl, ?_⟩
        refine ite2 (fun _ => ?_) (fun z => absurd (by decide) z)
        have eA4 := s4 _ _ eA
        refine ⟨_, rfl, .inl ⟨rfl, _, .of eA4⟩, _, rfl, _, rfl, c, _, _, _, rfl, rfl, .inl ec4, rfl, _, rfl, c, _, _, _, rfl, rfl, .inl ec4, rfl, _, rfl, szb, fun u2 hu2 => ?_⟩
        have s5 := same_new hu2 (.tup [.ref hc, .str name, y3, .ref da])
        have eA5 := s5 _ _ eA4
        refine ⟨A, xs, _, rfl, rfl, eA5, small1000 (by simp only [R.np] at hrp; omega), rfl, ?_, ⟨next, ps ++ [b ++ [s]], _, hD, hn4, ?_, ?_, ?_, upd_same, ?_⟩, hnw, (k4.trans (.same s5)).putN hnw⟩
        · exact (Kp.lst eA5 _).tup _ _ (Same.rd s5 ec4)
        · simp only [R.dep] at hrd; omega
        · simp only [R.np] at hrp; rw [List.length_append, List.length_singleton]; omega
        · rw [← hps]; simp [R.pts]
        · have kk : Kp [A] H3 (upd (upd H4 u2 (.tup [.ref hc, .str name, y3, .ref da])) A (.lst (xs ++ [.ref u2]))) := (Kp.same s4).trans ((Kp.same s5).trans (.lst eA5 _))
          refine Paired.app ((Paired.mono (fun q x h => h.kp kk)) pA) (.cons ⟨u2, .ref hc, name, y3, gives, da, rfl, (Kp.lst eA5 _).tup _ _ (.inl upd_same), (Kp.lst eA5 _).dat (Same.dat s5 dh), hn1, kk.dat d3, hn2, hn3, ((hdn.kp k3).kp kk).up (by omega)⟩ .nil)
      · rintro _ H5 ⟨rfl, ec5, g5⟩
        refine ⟨fun σ' H' => σ' = [some (.ref ra), some (.ref sa), some (.ref da), some (.ref A), some (.ref c), some (.ref hc)] ∧ H5 = H', ?_, ?_⟩
        · refine ⟨_, rfl, c, _, _, _, rfl, rfl, .inl ec5, rfl, rfl, _, rfl, ?_⟩
          exact ite2 (fun z => absurd z (no_eq (by decide))) (fun _ => ⟨rfl, rfl⟩)
        · rintro _ _ ⟨rfl, rfl⟩
          refine ⟨_, rfl, c, _, _, _, rfl, rfl, .inl ec5, rfl, rfl, _, rfl, ?_⟩
          exact ite2 (fun z => absurd z (no_eq (by decide))) (fun _ => ⟨A, ⟨_, _, rfl⟩, g5⟩)
    | give s name num row next =>
      simp only [R.D, List.cons.injEq] at hD
      obtain ⟨rfl, hD⟩ := hD
      obtain ⟨hn1, hn2, hn3⟩ := hrn
      have hrow : row.dep + 1 ≤ rr.dep := by simp only [R.dep] at hrd; omega
      obtain ⟨c, y0, y1, y2, y3, y6, rfl, ec, d0, d1, d2, d3, d4⟩ := dd.five
      obtain rfl := d0.str_inv
      obtain rfl := d2.str_inv
      obtain rfl := d3.int_inv
      refine ⟨_, rfl, _, rfl, c, _, _, _, rfl, rfl, .inl ec, rfl, szb, fun u hu => ?_⟩
      refine hereD hsv3 d1 hu (by omega) fun hc H4 s4 dh => ?_
      have k4 : Kp [] H H4 := k3.trans (.same s4)
      have ec4 := Same.rd s4 ec
      have eA4 := s4 _ _ eA
      refine ⟨fun σ' H' => σ' = [some (.ref ra), some (.ref sa), some (.ref da), some (.ref A), some (.ref c), some (.ref hc)] ∧ H4 = H', ?_, ?_⟩
      · refine ⟨_, rfl, c, _, _, _, rfl, rfl, .inl ec4, rfl, rfl, _, rfl, ?_⟩
        exact ite2 (fun z => absurd z (no_eq (by decide))) (fun _ => ⟨rfl, rfl⟩)
      rintro _ _ ⟨rfl, rfl⟩
      refine ⟨fun σ' H' => ∃ A', σ' = [some (.ref ra), some (.ref sa), some (.ref da), some (.ref A'), some (.ref c), some (.ref hc)] ∧ Rd H' c (.tup [.str "give", y1, .str name, .int num, y6]) ∧ Pi H H' nms (m + rr.dep) b rr (i + 1) A', ?_, ?_⟩
      · refine ⟨_, rfl, c, _, _, _, rfl, rfl, .inl ec4, rfl, rfl, _, rfl, ?_⟩
        refine ite2 (fun _ => ?_) (fun z => absurd (by decide) z)
        refine ⟨_, rfl, _, rfl, c, _, _, _, rfl, rfl, .inl ec4, rfl, _, rfl, _, rfl, _, rfl, c, _, _, _, rfl, rfl, .inl ec4, rfl, _, rfl, c, _, _, _, rfl, rfl, .inl ec4, rfl, szb, fun u1 hu1 => ⟨szb, fun u2 hu2 => ?_⟩⟩
        have s5 := same_new hu1 (.tup [.str name, .int num])
        have s6 := same_new hu2 (.tup [.ref u1])
        have s46 := s5.trans s6
        have d6 : Dat (upd (upd H4 u1 (.tup [.str name, .int num])) u2 (.tup [.ref u1])) (.ref u2) (.tup [.tup [.str name, .int num]]) := .made hu2 (.cons (.made hu1 (.cons .str (.cons .int .nil))) .nil)
        generalize upd (upd H4 u1 (.tup [.str name, .int num])) u2 (.tup [.ref u1]) = H6 at *
        refine ⟨da, .ref u2, m, _, rfl, (hdn.kp k4).same s46, d6, ?_, by show m + 1 ≤ 1000; omega, fun db H7 hdb s7 => ?_⟩
        · intro x hx
          rw [List.mem_singleton.mp hx]
          exact ⟨name, num, rfl, hn1⟩
        have s47 := s46.trans s7
        have hsz' : row.np ≤ 1000 := by
          simp only [R.np] at hrp; omega
        refine ⟨y6, .ref hc, db, row, b ++ [s], nms, m + 1, rfl, by omega, by omega, hsz', by rw [List.length_append, List.length_singleton]; omega, hn2, Same.dat (s4.trans s47) d4, Same.dat s47 dh, hdb, fun A2 xs2 H8 e8 p8 s8 _ => ?_⟩
        have s48 := s47.trans s8
        have l2 : xs2.length = row.np := by rw [← Paired.length p8, R.pts_len]
        refine ⟨A, A2, xs, xs2, rfl, rfl, s48 _ _ eA4, e8, ?_, fun A3 hA3 => ?_⟩
        · simp only [R.np] at hrp
          exact sz _ (by omega)
        have s9 := same_new hA3 (.lst (xs ++ xs2))
        refine ⟨A3, rfl, Same.rd (s48.trans s9) ec4, ⟨next, ps ++ row.pts (b ++ [s]), _, hD, hn3, ?_, ?_, ?_, upd_same, ?_⟩, ?_, k4.trans (.same (s48.trans s9))⟩
        · simp only [R.dep] at hrd; omega
        · simp only [R.np] at hrp; rw [List.length_append, R.pts_len]; omega
        · rw [← hps]; simp [R.pts]
        · exact Paired.app (Paired.mono (fun q x h => h.kp (ms := []) (.same (s4.trans (s48.trans s9)))) pA) (Paired.mono (fun q x h => (h.kp (ms := []) (.same s9)).up (by omega)) p8)
        · exact (k4.trans (.same s48)).frs _ hA3
      · rintro _ H5 ⟨A', rfl, ec5, g5⟩
        refine ⟨_, rfl, c, _, _, _, rfl, rfl, .inl ec5, rfl, rfl, _, rfl, ?_⟩
        exact ite2 (fun z => absurd z (no_eq (by decide))) (fun _ => ⟨A', ⟨_, _, rfl⟩, g5⟩)
    | plain s tag sets hands row next =>
      simp only [R.D, List.cons.injEq] at hD
      obtain ⟨rfl, hD⟩ := hD
      obtain ⟨hn2, hn3⟩ := hrn
      have hrow : row.dep + 1 ≤ rr.dep := by simp only [R.dep] at hrd; omega
      obtain ⟨c, y0, y1, y2, y3, y6, y7, rfl, ec, d0, d1, d2, d3, d4, d5⟩ := dd.six
      obtain rfl := d0.str_inv
      refine ⟨_, rfl, _, rfl, c, _, _, _, rfl, rfl, .inl ec, rfl, szb, fun u hu => ?_⟩
      refine hereD hsv3 d1 hu (by omega) fun hc H4 s4 dh => ?_
      have k4 : Kp [] H H4 := k3.trans (.same s4)
      have ec4 := Same.rd s4 ec
      have eA4 := s4 _ _ eA
      refine ⟨fun σ' H' => σ' = [some (.ref ra), some (.ref sa), some (.ref da), some (.ref A), some (.ref c), some (.ref hc)] ∧ H4 = H', ?_, ?_⟩
      · refine ⟨_, rfl, c, _, _, _, rfl, rfl, .inl ec4, rfl, rfl, _, rfl, ?_⟩
        exact ite2 (fun z => absurd z (no_eq (by decide))) (fun _ => ⟨rfl, rfl⟩)
      rintro _ _ ⟨rfl, rfl⟩
      refine ⟨fun σ' H' => σ' = [some (.ref ra), some (.ref sa), some (.ref da), some (.ref A), some (.ref c), some (.ref hc)] ∧ H4 = H', ?_, ?_⟩
      · refine ⟨_, rfl, c, _, _, _, rfl, rfl, .inl ec4, rfl, rfl, _, rfl, ?_⟩
        exact ite2 (fun z => absurd z (no_eq (by decide))) (fun _ => ⟨rfl, rfl⟩)
      rintro _ _ ⟨rfl, rfl⟩
      refine ⟨_, rfl, c, _, _, _, rfl, rfl, .inl ec4, rfl, rfl, _, rfl, ?_⟩
      refine ite2 (fun _ => ?_) (fun z => absurd (by decide) z)
      have hsz' : row.np ≤ 1000 := by
        simp only [R.np] at hrp; omega
      refine ⟨_, rfl, _, rfl, c, _, _, _, rfl, rfl, .inl ec4, rfl, _, rfl, _, rfl, y7, .ref hc, da, row, b ++ [s], nms, m, rfl, by omega, by omega, hsz', by rw [List.length_append, List.length_singleton]; omega, hn2, Same.dat s4 d5, dh, hdn.kp k4, fun A2 xs2 H8 e8 p8 s48 _ => ?_⟩
      have l2 : xs2.length = row.np := by rw [← Paired.length p8, R.pts_len]
      refine ⟨A, A2, xs, xs2, rfl, rfl, s48 _ _ eA4, e8, ?_, fun A3 hA3 => ?_⟩
      · simp only [R.np] at hrp
        exact sz _ (by omega)
      have s9 := same_new hA3 (.lst (xs ++ xs2))
      refine ⟨A3, ⟨_, _, rfl⟩, ⟨next, ps ++ row.pts (b ++ [s]), _, hD, hn3, ?_, ?_, ?_, upd_same, ?_⟩, ?_, k4.trans (.same (s48.trans s9))⟩
      · simp only [R.dep] at hrd; omega
      · simp only [R.np] at hrp; rw [List.length_append, R.pts_len]; omega
      · rw [← hps]; simp [R.pts]
      · exact Paired.app (Paired.mono (fun q x h => h.kp (ms := []) (.same (s4.trans (s48.trans s9)))) pA) (Paired.mono (fun q x h => (h.kp (ms := []) (.same s9)).up (by omega)) p8)
      · exact (k4.trans (.same s48)).frs _ hA3
  · obtain ⟨A, ⟨y4, y5, rfl⟩, ⟨rest, ps, xs, hD, hrn, hrd, hrp, hps, eA, pA⟩, hnw, k3⟩ := hP
    have : rest = .nil := by
      have e : rest.D = [] := by rw [hD, dra.len]; simp
      cases rest with
      | nil => rfl
      | _ => cases e
    subst this
    simp only [R.pts, List.append_nil] at hps
    rw [hps] at pA
    exact ⟨_, rfl, q A xs H3 eA pA k3.toSame hnw⟩
end
end Vw

set_option maxHeartbeats 4000000
/-! a part by its name; the answers -/
namespace Vw
open PySem PySem.Spec PyProof.Rows L2
open C8 (pss_cut tCut)

section
variable {P : Program} {w : World} {K : PySem.W.Frag} {mg : Str → Option Value} {base : Heap} {f : Addr} {fd : FuncData} {k : Nat}
def spNamed : Sp := fun vs H Q _ => ∃ (hv : V) (nm : Str) (names : List Str) (hs : List D) (j : Nat), vs = [hv, .str nm] ∧ HouseOk names hs ∧ Dat H hv (.tup hs) ∧ names[j]? = some nm ∧
  ∀ v d H', hs[j]? = some d → Dat H' v d → Same H H' → Q v H'
theorem sc_law_named : FnScope ["_law_house_here", "_law_name", "_law_part_here"] ["_law_house_here", "_law_name"] (defScope (Vh.top 28)) := ⟨rfl, rfl, rfl, by decide +kernel, rfl, by decide +kernel, by decide +kernel⟩
theorem ok_named (F : Fun K "_law_named" "_law_named" (Vh.top 28) f fd) (B : Blt mg) : FnOk P w K mg base CX0 (k + 1) f fd ["_law_house_here", "_law_name"] spNamed := by
  refine F.ok sc_law_named (fun vs H Q E h => ?_) (fun cdv A outer s H vs Q E hr h => ?_)
  · obtain ⟨hv, nm, _, _, _, rfl, _⟩ := h
    rfl
  obtain ⟨hv, nm, names, hs, j, rfl, hh, hd, hj, q⟩ := h
  refine ⟨_, (pss_one (ps_ret (pe_ix ix_list (pe_lc (own := [("_law_part_here", 2)]) (g := (gName 2)) (by rfl) sc_law_named.nd (pi_tup (pv 0)) (blkOk_by (own := [("_law_part_here", 2)]) (N := ["_law_house_here", "_law_name", "_law_part_here"]) (sc := defScope (Vh.top 28)) (by decide +kernel)) (fun _ _ _ _ _ => (pg_name (i := 2) sc_law_named.nd rfl (.inl rfl))) (fun _ _ _ _ _ => (pts_one (pt_cmpR op_eq (pe_ix (ix_tupK (K := K)) (pv 2) pe_int (fun _ _ => rfl)) (pv 1) (nomark _)))) (fun _ _ _ _ _ => (pv 2))) pe_int (fun _ _ => rfl)))), ?_⟩
  obtain ⟨ha, xs, rfl, eha, dha⟩ := hd.tup_inv
  have hjl : j < names.length := (List.getElem?_eq_some_iff.mp hj).1
  have hjx : j < xs.length := by rw [dha.len, hh.len]; exact hjl
  refine ⟨_, rfl, ha, rfl, ⟨_, .inl eha⟩, fun A hA => ?_⟩
  refine lc_tup (K := K) (xs := xs) (fun i H3 => Kp [] H H3 ∧ H3 A = some (.lst (if i ≤ j then [] else [xs[j]]))) ⟨.new hA, by rw [if_pos (Nat.zero_le _)]; exact upd_same⟩ (fun i H3 _ g => .inl (g.1.tup _ _ eha)) (fun i y H3 hy g => ?_) fun H3 g => ?_
  · obtain ⟨k3, e3⟩ := g
    obtain ⟨d, hd1, hd2⟩ := dha.at hy
    obtain ⟨nm', first, works, lines, _, _, hn', rfl, _⟩ := hh.pt i d hd1
    obtain ⟨c, y0, y1, y2, y3, rfl, ec, d0, d1, d2, d3⟩ := (k3.dat hd2).four
    obtain rfl := d0.str_inv
    refine ⟨rfl, ?_⟩
    refine ⟨_, rfl, c, _, _, _, rfl, rfl, .inl ec, rfl, _, rfl, rfl, _, rfl, ?_⟩
    refine ite2 (fun z => ?_) (fun z => ?_)
    · have hnn : nm' = nm := by
        have := of_decide_eq_true z
        cases this
        rfl
      subst hnn
      have hij : i = j := by
        have h1 := List.getElem?_eq_some_iff.mp hn'
        have h2 := List.getElem?_eq_some_iff.mp hj
        obtain ⟨h1, h1'⟩ := h1
        obtain ⟨h2, h2'⟩ := h2
        exact (List.getElem_inj hh.nd).mp (h1'.trans h2'.symm)
      subst hij
      rw [if_pos (Nat.le_refl _)] at e3
      refine ⟨_, rfl, _, e3, by show 0 < sizeLine; decide, k3.putN hA, ?_⟩
      rw [if_neg (by omega), upd_same]
      have := (List.getElem?_eq_some_iff.mp hy).2
      rw [this]
      rfl
    · have hij : i ≠ j := by
        rintro rfl
        rw [hn'] at hj
        cases hj
        exact z (by simp)
      refine ⟨k3, ?_⟩
      rw [e3]
      by_cases h : i ≤ j
      · rw [if_pos h, if_pos (by omega)]
      · rw [if_neg h, if_neg (by omega)]
  · obtain ⟨k3, e3⟩ := g
    rw [if_neg (by omega)] at e3
    obtain ⟨d, hd1, hd2⟩ := dha.at (List.getElem?_eq_getElem hjx)
    exact ⟨A, _, _, _, rfl, rfl, .of e3, rfl, q _ d H3 hd1 (k3.dat hd2) k3.toSame⟩

/-- the values: a dict by paths of names and numbers of boxes -/
def VOk (P : Program) (w : World) (H : Hp) (va : Addr) : Prop := ∃ kvs, ND P w H va kvs ∧ ∀ k v, valV kvs k = some v → ∃ (nm : Str) (bs : List D), Dat H v (.tup [.str nm, .tup bs]) ∧ (∀ b ∈ bs, PrI b) ∧ bs.length ≤ 12
theorem VOk.kp {ms : List Addr} {H H' : Hp} {va : Addr} (h : VOk P w H va) (k : Kp ms H H') (n : va ∉ ms) : VOk P w H' va := by
  obtain ⟨kvs, nd, q⟩ := h
  refine ⟨kvs, nd.kp k n, fun k' v e => ?_⟩
  obtain ⟨nm, bs, d, r⟩ := q k' v e
  exact ⟨nm, bs, k.dat d, r⟩
theorem VOk.same {H H' : Hp} {va : Addr} (h : VOk P w H va) (s : Same H H') : VOk P w H' va := h.kp (ms := []) (.same s) (by simp)
/-- a due: path, name, gives, downs -/
structure Due (H : Hp) (qa : Addr) (p : List Spot) (nm : Str) (n : Nat) (da : Addr) : Prop where
  ex : ∃ (pv gv : V) (gs : List D), Rd H qa (.tup [pv, .str nm, gv, .ref da]) ∧ Dat H pv (pathD p) ∧ Dat H gv (.tup gs) ∧ (∀ g ∈ gs, PrI g) ∧ gs.length ≤ 100 ∧ Dn H n da
theorem Due.same {H H' : Hp} {qa da : Addr} {p : List Spot} {nm : Str} {n : Nat} (h : Due H qa p nm n da) (s : Same H H') : Due H' qa p nm n da := by
  obtain ⟨pv, gv, gs, e, d1, d2, h1, h2, h3⟩ := h.ex
  exact ⟨pv, gv, gs, Same.rd s e, Same.dat s d1, Same.dat s d2, h1, h2, h3.same s⟩
def spAnswers (P : Program) (w : World) : Sp := fun vs H Q _ => ∃ (hv : V) (va qa da : Addr) (p : List Spot) (nm : Str) (n j : Nat) (names : List Str) (hs : List D), vs = [hv, .ref va, .ref qa] ∧ HouseOk names hs ∧ Dat H hv (.tup hs) ∧ VOk P w H va ∧ Due H qa p nm n da ∧ n ≤ 500 ∧ names[j]? = some nm ∧
  ∀ a H', Ans H' a → Same H H' → Q (.ref a) H'
theorem sc_law_answers : FnScope ["_law_house_here", "_law_values_here", "_law_due", "_law_path", "_law_name", "_law_gives", "_law_downs", "_law_boxes_here", "_law_answers_here", "_law_sort", "_law_pairs_here", "_law_one", "_law_number_here"] ["_law_house_here", "_law_values_here", "_law_due"] (defScope (Vh.top 29)) := ⟨rfl, rfl, rfl, by decide +kernel, rfl, by decide +kernel, by decide +kernel⟩
theorem ok_answers (F : Fun K "_law_answers" "_law_answers" (Vh.top 29) f fd) (B : Blt mg) (C_law_named : Cl P w K mg base k "_law_named" spNamed) : FnOk P w K mg base CX0 (k + 1) f fd ["_law_house_here", "_law_values_here", "_law_due"] (spAnswers P w) := by
  refine F.ok sc_law_answers (fun vs H Q E h => ?_) (fun cdv A outer s H vs Q E hr h => ?_)
  · obtain ⟨hv, va, qa, _, _, _, _, _, _, _, rfl, _⟩ := h
    rfl
  obtain ⟨hv, va, qa, da, p, nm, n, j, names, hs, rfl, hh, hd, hva, hdue, hn, hj, q⟩ := h
  refine ⟨_, (pss_cons (ps_asg (pv 2) (pg_tup rfl (pgs_cons (pg_name (i := 3) sc_law_answers.nd rfl (.inl rfl)) (pgs_cons (pg_name (i := 4) sc_law_answers.nd rfl (.inl rfl)) (pgs_cons (pg_name (i := 5) sc_law_answers.nd rfl (.inl rfl)) (pgs_cons (pg_name (i := 6) sc_law_answers.nd rfl (.inl rfl)) pgs_nil))))))
  (pss_cons (ps_set (i := 7) sc_law_answers.nd rfl (Or.inl rfl) (pe_ix ix_tup (pe_cl C_law_named hr (by rfl) (pa_cons (pv 0) (pa_cons (pv 4) pa_nil))) pe_int (fun _ _ => rfl)))
  (pss_cut (ps_if (PW.pt (pw_and (pt_cmp (pc_nin (hu10 hr) (pv 3) (pv 1))) (pw_and1 (pt_cmpR op_eq (pe_ix ix_tup (pe_nget (hu10 hr) (pv 1) (pv 3) (fun _ _ => rfl)) pe_int (fun _ _ => rfl)) (pv 4) (nomark _))))) (pss_one (ps_set (i := 7) sc_law_answers.nd rfl (Or.inl rfl) (pe_ix ix_tup (pe_nget (hu10 hr) (pv 1) (pv 3) (fun _ _ => rfl)) pe_int (fun _ _ => rfl)))) pss_nil)
  (pss_cons (ps_set (i := 8) sc_law_answers.nd rfl (Or.inl rfl) pe_dnewT)
  (pss_cons (ps_for PassesOwn.never rfl (pi_list (pe_lst (pa_cons (pe_tup (pa_cons pe_str (pa_cons (pv 5) pa_nil))) (pa_cons (pe_tup (pa_cons pe_str (pa_cons (pv 6) pa_nil))) (pa_cons (pe_tup (pa_cons pe_str (pa_cons (pv 7) pa_nil))) pa_nil))))) (pg_tup rfl (pgs_cons (pg_name (i := 9) sc_law_answers.nd rfl (.inl rfl)) (pgs_cons (pg_name (i := 10) sc_law_answers.nd rfl (.inl rfl)) pgs_nil))) (pss_one (ps_for PassesOwn.never rfl (pi_tup (pv 10)) (pg_tup rfl (pgs_cons (pg_name (i := 11) sc_law_answers.nd rfl (.inl rfl)) (pgs_cons (pg_name (i := 12) sc_law_answers.nd rfl (.inl rfl)) pgs_nil))) (pss_one (ps_dput (hu_of hr) (pv 8) (pe_tup (pa_cons (pv 9) (pa_cons (pv 11) pa_nil))) (pv 12) rfl)))))
  (pss_one (ps_ret (pv 8)))))))), ?_⟩
  obtain ⟨pv, gv, gs, eq, dp, dg, hg, hgl, hdn⟩ := id hdue.ex
  refine ⟨_, rfl, qa, _, rfl, .inl eq, rfl, _, _, rfl, _, _, rfl, _, _, rfl, _, _, rfl, rfl, ?_⟩
  refine ⟨_, rfl, _, rfl, hv, nm, names, hs, j, rfl, hh, hd, hj, fun v d H1 hjd dv s1 => ?_⟩
  obtain ⟨nm', first, works, lines, _, _, hn', rfl, hfi, hfl, _⟩ := hh.pt j d hjd
  obtain ⟨c, y0, y1, y2, y3, rfl, ec, d0, d1, d2, d3⟩ := dv.four
  refine ⟨c, _, _, _, rfl, rfl, .inl ec, rfl, ?_⟩
  have hva1 := hva.same s1
  obtain ⟨pb, rfl, nk⟩ := NK.path (Same.dat s1 dp)
  refine ⟨fun σ' H' => ∃ bv bs, σ' = [some hv, some (.ref va), some (.ref qa), some (.ref pb), some (.str nm), some gv, some (.ref da), some bv, none, none, none, none, none] ∧ Dat H1 bv (.tup bs) ∧ (∀ b ∈ bs, PrI b) ∧ bs.length ≤ 12 ∧ H1 = H', ?_, ?_⟩
  · obtain ⟨kvs, nd, hkv⟩ := id hva1
    refine ⟨_, rfl, _, rfl, va, pb, kvs, _, rfl, rfl, nd, nk, _, rfl, ?_⟩
    refine ite2 (fun z => ?_) (fun z => iteF ⟨_, _, rfl, d1, hfi, hfl, rfl⟩)
    obtain ⟨v1, hv1⟩ := Option.isSome_iff_exists.mp z
    obtain ⟨nm2, bs2, dv2, hb1, hb2⟩ := hkv _ _ hv1
    obtain ⟨c2, z0, z1, rfl, ec2, f0, f1⟩ := dv2.two
    obtain rfl := f0.str_inv
    refine ⟨_, rfl, _, rfl, va, pb, kvs, _, _, rfl, rfl, nd, nk, hv1, c2, _, _, _, rfl, rfl, .inl ec2, rfl, _, rfl, rfl, _, rfl, ?_⟩
    refine ite2 (fun z => ?_) (fun z => ⟨_, _, rfl, d1, hfi, hfl, rfl⟩)
    exact ⟨_, rfl, _, rfl, va, pb, kvs, _, _, rfl, rfl, nd, nk, hv1, c2, _, _, _, rfl, rfl, .inl ec2, rfl, _, _, rfl, f1, hb1, hb2, rfl⟩
  rintro _ _ ⟨bv, bs, rfl, db, hb, hbl, rfl⟩
  refine fun a ha => ?_
  have s2 := s1.trans (same_new ha (.dT []))
  have ea2 : (upd H1 a (.dT [])) a = some (.dT []) := upd_same
  have hbv2 := Same.dat (same_new ha (.dT [])) db
  have kH2 : Kp [] H (upd H1 a (.dT [])) := .same s2
  have haH : H a = none := s1.free ha
  generalize upd H1 a (.dT []) = H2 at *
  refine ⟨_, rfl, szb, fun u1 hu1 => ⟨_, rfl, szb, fun u2 hu2 => ⟨_, rfl, szb, fun u3 hu3 => ⟨szb, fun l hl => ?_⟩⟩⟩⟩
  have t1 := same_new hu1 (.tup [.str "take", gv])
  have t2 := same_new hu2 (.tup [.str "down", .ref da])
  have t3 := same_new hu3 (.tup [.str "box", bv])
  have t4 := same_new hl (.lst [.ref u1, .ref u2, .ref u3])
  obtain ⟨es, dde, hes, hel⟩ := (hdn.same s2).dat
  have hitems : ∀ x ∈ [V.ref u1, .ref u2, .ref u3], ∃ (u : Addr) (wd : Str) (pb : V) (ps : List D), x = .ref u ∧ (upd (upd (upd (upd H2 u1 (.tup [.str "take", gv])) u2 (.tup [.str "down", .ref da])) u3 (.tup [.str "box", bv])) l (.lst [.ref u1, .ref u2, .ref u3])) u = some (.tup [.str wd, pb]) ∧
      Dat (upd (upd (upd (upd H2 u1 (.tup [.str "take", gv])) u2 (.tup [.str "down", .ref da])) u3 (.tup [.str "box", bv])) l (.lst [.ref u1, .ref u2, .ref u3])) pb (.tup ps) ∧ (∀ e ∈ ps, PrI e) ∧ ps.length ≤ 500 := by
    have t := t1.trans (t2.trans (t3.trans t4))
    intro x hx
    simp at hx
    rcases hx with rfl | rfl | rfl
    · exact ⟨u1, _, gv, gs, rfl, t4 _ _ (t3 _ _ (t2 _ _ upd_same)), Same.dat (s2.trans t) dg, hg, by omega⟩
    · exact ⟨u2, _, .ref da, es, rfl, t4 _ _ (t3 _ _ upd_same), Same.dat t dde, hes, by omega⟩
    · exact ⟨u3, _, bv, bs, rfl, t4 _ _ upd_same, Same.dat t hbv2, hb, by omega⟩
  have s24 := t1.trans (t2.trans (t3.trans t4))
  have el : (upd (upd (upd (upd H2 u1 (.tup [.str "take", gv])) u2 (.tup [.str "down", .ref da])) u3 (.tup [.str "box", bv])) l (.lst [.ref u1, .ref u2, .ref u3])) l = some (.lst [.ref u1, .ref u2, .ref u3]) := upd_same
  generalize upd (upd (upd (upd H2 u1 (.tup [.str "take", gv])) u2 (.tup [.str "down", .ref da])) u3 (.tup [.str "box", bv])) l (.lst [.ref u1, .ref u2, .ref u3]) = H4 at *
  clear t1 t2 t3 t4
  have ea4 := s24 _ _ ea2
  have nla : l ≠ a := ne_of el ea4 fun z => nomatch z
  have kH4 : Kp [] H H4 := kH2.trans (.same s24)
  refine ⟨l, rfl, ⟨_, .of el⟩, ?_⟩
  refine for_list (K := K) (xs := [.ref u1, .ref u2, .ref u3]) (fun i σ H5 => (∃ y9 y10 y11 y12, σ = [some hv, some (.ref va), some (.ref qa), some (.ref pb), some (.str nm), some gv, some (.ref da), some bv, some (.ref a), y9, y10, y11, y12]) ∧ Kp [a] H4 H5 ∧ ∃ kvs, H5 a = some (.dT kvs) ∧ Ints kvs ∧ kvs.length ≤ 500 * i)
    ⟨⟨_, _, _, _, rfl⟩, .refl, [], ea4, (fun _ h => nomatch h), by simp⟩ (fun i σ H5 _ hP => .of (hP.2.1.at1 nla el)) (fun i x σ H5 hx hP => ?_) fun σ H5 hP => ?_
  · obtain ⟨⟨y9, y10, y11, y12, rfl⟩, k5, kvs, e5, i5, l5⟩ := hP
    have hi : i < 3 := (List.getElem?_eq_some_iff.mp hx).1
    obtain ⟨u, wd, pb2, ps, rfl, eu, dps, hps, hpl⟩ := hitems x (List.mem_of_getElem? hx)
    obtain ⟨pa, pxs, rfl, epa, dpa⟩ := dps.tup_inv
    have nu : u ≠ a := ne_of eu ea4 fun z => nomatch z
    refine ⟨u, _, rfl, .inl (.inl (k5.at1 nu eu)), rfl, _, _, rfl, _, _, rfl, rfl, ?_⟩
    refine ⟨_, rfl, pa, rfl, ⟨_, .inl (k5.tup _ _ epa)⟩, ?_⟩
    refine for_tup (K := K) (xs := pxs) (fun i2 σ H6 => (∃ y11 y12, σ = [some hv, some (.ref va), some (.ref qa), some (.ref pb), some (.str nm), some gv, some (.ref da), some bv, some (.ref a), some (.str wd), some (.ref pa), y11, y12]) ∧ Kp [a] H4 H6 ∧ ∃ kvs, H6 a = some (.dT kvs) ∧ Ints kvs ∧ kvs.length ≤ 500 * i + i2)
      ⟨⟨_, _, rfl⟩, k5, kvs, e5, i5, by omega⟩ (fun i2 σ H6 _ hP => .inl (hP.2.1.tup _ _ epa)) (fun i2 y σ H6 hy hP => ?_) fun σ H6 hP => ?_
    · obtain ⟨⟨y11, y12, rfl⟩, k6, kvs, e6, i6, l6⟩ := hP
      have hi2 := (List.getElem?_eq_some_iff.mp hy).1
      rw [dpa.len] at hi2
      obtain ⟨d, hd1, hd2⟩ := dpa.at hy
      obtain ⟨on, nu2, rfl, si⟩ := hps d (List.mem_of_getElem? hd1)
      obtain ⟨c, z1, z2, rfl, ec, f1, f2⟩ := (k6.dat hd2).two
      obtain rfl := f1.str_inv
      obtain rfl := f2.int_inv
      refine ⟨c, _, rfl, .inl ec, rfl, _, _, rfl, _, _, rfl, rfl, ?_⟩
      refine ⟨_, rfl, _, rfl, _, rfl, _, rfl, szb, fun u5 hu5 => ?_⟩
      have e7 : (upd H6 u5 (.tup [.str wd, .str on])) a = some (.dT kvs) := same_new hu5 _ _ _ e6
      refine ⟨a, _, rfl, DPut.t (k := [.inr wd, .inr on]) e7 upd_same (Nat.lt_of_le_of_lt (show kvs.length ≤ 10000 by omega) (by decide)), ⟨_, _, rfl⟩, k6.trans ((Kp.new hu5).trans (.put (by simp) e7 (fun _ z => nomatch z) fun _ _ z => nomatch z)), _, upd_same, i6.put si, ?_⟩
      have := length_putK kvs [Sum.inr wd, Sum.inr on] (.int nu2)
      omega
    · obtain ⟨⟨y11, y12, rfl⟩, k6, kvs, e6, i6, l6⟩ := hP
      rw [dpa.len] at l6
      exact ⟨⟨_, _, _, _, rfl⟩, k6, kvs, e6, i6, by omega⟩
  · obtain ⟨⟨y9, y10, y11, y12, rfl⟩, k5, kvs, e5, i5, l5⟩ := hP
    refine ⟨_, rfl, q a H5 ⟨kvs, e5, i5⟩ ?_⟩
    exact ((kH4.sub (fun b h => nomatch h)).trans k5).nil fun b hb => by rw [List.mem_singleton.mp hb]; exact haH
end
end Vw

set_option maxHeartbeats 4000000
/-! a drawing -/
namespace Vw
open PySem PySem.Spec PyProof.Rows L2
open C8 (pss_cut tCut)

namespace R
theorem pts_deep : ∀ (r : R) (b q : List Spot), q ∈ r.pts b → q.length ≤ b.length + r.dep
  | .nil, b, q, h => nomatch h
  | .plain s _ _ _ row next, b, q, h => by
    simp only [dep]
    rcases List.mem_append.mp h with h | h
    · have := pts_deep row _ q h
      simp only [List.length_append, List.length_singleton] at this
      omega
    · have := pts_deep next _ q h
      omega
  | .part s _ _ row next, b, q, h => by
    simp only [dep]
    rcases List.mem_cons.mp h with h | h
    · subst h
      simp only [List.length_append, List.length_singleton]
      omega
    · have := pts_deep next _ q h
      omega
  | .give s _ _ row next, b, q, h => by
    simp only [dep]
    rcases List.mem_append.mp h with h | h
    · have := pts_deep row _ q h
      simp only [List.length_append, List.length_singleton] at this
      omega
    · have := pts_deep next _ q h
      omega
theorem subs_sz : ∀ (r : R) (b : List Spot), (r.subs b).length ≤ r.sz
  | .nil, b => Nat.le_refl _
  | .plain s _ _ _ r n, b => by have := subs_sz n b; have := subs_sz r (b ++ [s]); simp only [subs, sz, List.length_append]; omega
  | .part s _ _ r n, b => by have := subs_sz n b; have := subs_sz r (b ++ [s]); simp only [subs, sz, List.length_append, List.length_cons]; omega
  | .give s _ _ r n, b => by have := subs_sz n b; have := subs_sz r (b ++ [s]); simp only [subs, sz, List.length_append]; omega
theorem flat_snoc {ps : List (List Spot)} {ts : List R} {i : Nat} {q : List Spot} {t : R} (h : ts.length = i) (e : ps[i]? = some q) : flat (ps.take (i + 1)) (ts ++ [t]) = flat (ps.take i) ts ++ t.ents q := by
  have hi := (List.getElem?_eq_some_iff.mp e).1
  have h2 : ps.take (i + 1) = ps.take i ++ [q] := by
    rw [List.take_succ, e]
    rfl
  rw [h2, flat_app (by rw [List.length_take]; omega)]
  congr 1
  simp [flat, ents]
end R
/-- an entry of a drawing: path, name, gives, downs, piece; its row is r's -/
def Ent (H : Hp) (names : List Str) (e : List Spot × R) (x : V) : Prop := ∃ (a : Addr) (pv : V) (nm : Str) (gv dv : V) (pa : Addr) (rd rw wk : V), x = .ref a ∧ Rd H a (.tup [pv, .str nm, gv, dv, .ref pa]) ∧ Dat H pv (pathD e.1) ∧ nm ∈ names ∧ Rd H pa (.tup [rd, rw, wk]) ∧ Dat H rw (.tup e.2.D)
theorem Ent.kp {ms : List Addr} {H H' : Hp} {names : List Str} {e : List Spot × R} {x : V} (h : Ent H names e x) (k : Kp ms H H') : Ent H' names e x := by
  obtain ⟨a, pv, nm, gv, dv, pa, rd, rw, wk, h0, h1, h2, h3, h4, h5⟩ := h
  exact ⟨a, pv, nm, gv, dv, pa, rd, rw, wk, h0, k.tup _ _ h1, k.dat h2, h3, k.tup _ _ h4, k.dat h5⟩
/-- how many things at most in the drawing of the part at place j -/
def Ez : Nat → Nat
  | 0 => 1135
  | 1 => 63
  | 2 => 31
  | 3 => 15
  | 4 => 7
  | 5 => 3
  | _ => 1
theorem Ez_anti {j j' : Nat} (h : j < j') : Ez j' ≤ Ez (j + 1) := by
  have h1 : ∀ i, i < 7 → ∀ i', i' < 7 → i < i' → Ez i' ≤ Ez (i + 1) := by decide
  by_cases h2 : j' < 7
  · exact h1 j (by omega) j' h2 h
  · have e : Ez j' = 1 := by
      match j', h2 with
      | j' + 7, _ => rfl
      | 0, h => omega
      | 1, h => omega
      | 2, h => omega
      | 3, h => omega
      | 4, h => omega
      | 5, h => omega
      | 6, h => omega
    rw [e]
    have : ∀ i, 1 ≤ Ez i := fun i => by unfold Ez; split <;> decide
    exact this _
theorem Ez_step {j : Nat} (h : j < 6) : 1 + (if j = 0 then 18 else 2) * Ez (j + 1) ≤ Ez j := by
  have : ∀ i, i < 6 → 1 + (if i = 0 then 18 else 2) * Ez (i + 1) ≤ Ez i := by decide
  exact this j h
theorem Ez_le (j : Nat) : Ez j ≤ 1135 := by unfold Ez; split <;> decide

section
variable {P : Program} {w : World} {K : PySem.W.Frag} {mg : Str → Option Value} {base : Heap} {f : Addr} {fd : FuncData} {k : Nat}
/-- a whole tree drawn for the part at place j -/
structure Tr (j : Nat) (r : R) : Prop where
  wf : r.Wf
  dep : r.dep ≤ 8 * (6 - j)
  sz : r.sz ≤ 48 * Ez j
theorem Tr.ents {j : Nat} {r : R} (h : Tr j r) (b : List Spot) : (r.ents b).length ≤ 100000 := by
  have h1 := r.subs_sz b
  have h2 := h.sz
  have h3 := Ez_le j
  show (r.subs b).length + 1 ≤ 100000
  omega
def spWithin (n : Nat) (P : Program) (w : World) : Sp := fun vs H Q _ => ∃ (hv : V) (va qa da : Addr) (p : List Spot) (nm : Str) (m j : Nat) (names : List Str) (hs : List D), vs = [hv, .ref va, .ref qa] ∧ 6 - j < n ∧ HouseOk names hs ∧ Dat H hv (.tup hs) ∧ VOk P w H va ∧ Due H qa p nm m da ∧ names[j]? = some nm ∧
  m + 8 * (6 - j) ≤ 48 ∧ p.length + 8 * (6 - j) ≤ 48 ∧
  ∀ A xs r H', H' A = some (.lst xs) → Paired (Ent H' names) (r.ents p) xs → Tr j r → Same H H' → Q (.ref A) H'
/-- where the walk over the parts stands -/
def Wi (H H4 : Hp) (names : List Str) (p : List Spot) (r0 : R) (j i : Nat) (A : Addr) : Prop := ∃ ts fxs, H4 A = some (.lst fxs) ∧ ts.length = i ∧ (∀ t ∈ ts, Tr (j + 1) t) ∧ Paired (Ent H4 names) ((p, r0) :: R.flat ((r0.pts p).take i) ts) fxs ∧ Kp [] H H4
theorem sc_law_within : FnScope ["_law_house_here", "_law_values_here", "_law_due", "_law_piece_here", "_law_found", "_law_spots", "_law_name", "_law_gives", "_law_downs"] ["_law_house_here", "_law_values_here", "_law_due"] (defScope (Vh.top 30)) := ⟨rfl, rfl, rfl, by decide +kernel, rfl, by decide +kernel, by decide +kernel⟩
theorem ok_within {n : Nat} (F : Fun K "_law_within" "_law_within" (Vh.top 30) f fd) (B : Blt mg) (C_law_piece : Cl P w K mg base k "_law_piece" spPiece) (C_law_named : Cl P w K mg base k "_law_named" spNamed) (C_law_answers : Cl P w K mg base k "_law_answers" (spAnswers P w))
    (C_law_parts : Cl P w K mg base k "_law_parts" (spParts 9)) (C_law_over : Cl P w K mg base k "_law_over" spOver) (C_law_within : Cl P w K mg base k "_law_within" (spWithin n P w)) : FnOk P w K mg base CX0 (k + 1) f fd ["_law_house_here", "_law_values_here", "_law_due"] (spWithin (n + 1) P w) := by
  refine F.ok sc_law_within (fun vs H Q E h => ?_) (fun cdv A outer s H vs Q E hr h => ?_)
  · obtain ⟨hv, va, qa, _, _, _, _, _, _, _, rfl, _⟩ := h
    rfl
  obtain ⟨hv, va, qa, da, p, nm, m, j, names, hs, rfl, hj6, hh, hd, hva, hdue, hj, hm, hp, q⟩ := h
  refine ⟨_, (pss_cons (ps_set (i := 3) sc_law_within.nd rfl (Or.inl rfl) (pe_cl C_law_piece hr (by rfl) (pa_cons (pe_cl C_law_named hr (by rfl) (pa_cons (pv 0) (pa_cons (pe_ix ix_tup (pv 2) pe_int (fun _ _ => rfl)) pa_nil))) (pa_cons (pe_cl C_law_answers hr (by rfl) (pa_cons (pv 0) (pa_cons (pv 1) (pa_cons (pv 2) pa_nil)))) pa_nil))))
  (pss_cons (ps_set (i := 4) sc_law_within.nd rfl (Or.inl rfl) (pe_lst (pa_cons (pe_op op_catA (pv 2) (pe_tup (pa_cons (pv 3) pa_nil))) pa_nil)))
  (pss_cons (ps_for PassesOwn.never rfl (pi_list (pe_cl C_law_parts hr (by rfl) (pa_cons (pe_ix ix_tup (pv 3) pe_int (fun _ _ => rfl)) (pa_cons (pe_tupF pa_nil) (pa_cons (pe_tupF pa_nil) pa_nil))))) (pg_tup rfl (pgs_cons (pg_name (i := 5) sc_law_within.nd rfl (.inl rfl)) (pgs_cons (pg_name (i := 6) sc_law_within.nd rfl (.inl rfl)) (pgs_cons (pg_name (i := 7) sc_law_within.nd rfl (.inl rfl)) (pgs_cons (pg_name (i := 8) sc_law_within.nd rfl (.inl rfl)) pgs_nil))))) (pss_one (ps_set (i := 4) sc_law_within.nd rfl (Or.inl rfl) (pe_op op_cat (pv 4) (pe_cl C_law_within hr (by rfl) (pa_cons (pv 0) (pa_cons (pv 1) (pa_cons (pe_tup (pa_cons (pe_op op_catA (pe_ix ix_tup (pv 2) pe_int (fun _ _ => rfl)) (pv 5)) (pa_cons (pv 6) (pa_cons (pv 7) (pa_cons (pe_cl C_law_over hr (by rfl) (pa_cons (pe_ix ix_tup (pv 2) pe_int (fun _ _ => rfl)) (pa_cons (pv 8) pa_nil))) pa_nil))))) pa_nil))))))))
  (pss_one (ps_ret (pv 4)))))), ?_⟩
  have hjl : j < names.length := (List.getElem?_eq_some_iff.mp hj).1
  have h6 := hh.six
  obtain ⟨pv, gv, gs, eq, dp, dg, hg, hgl, hdn⟩ := id hdue.ex
  refine ⟨_, rfl, _, rfl, qa, _, _, _, rfl, rfl, .inl eq, rfl, hv, nm, names, hs, j, rfl, hh, hd, hj, fun v d H1 hjd dv s1 => ?_⟩
  refine ⟨_, rfl, _, rfl, _, rfl, hv, va, qa, da, p, nm, m, j, names, hs, rfl, hh, Same.dat s1 hd, hva.same s1, hdue.same s1, by omega, hj, fun aa H2 haa s2 => ?_⟩
  refine ⟨v, aa, names, j, d, rfl, haa, hh.pt j d hjd, Same.dat s2 dv, fun piv r0 rds wks H3 hr0 dpi s3 => ?_⟩
  have s13 := s1.trans (s2.trans s3)
  obtain ⟨pa, rdv, rowv, wkv, rfl, epa, _, drow, _⟩ := dpi.three
  have eq3 := Same.rd s13 eq
  -- the first entry
  refine ⟨_, rfl, _, rfl, szb, fun u hu => ?_⟩
  refine catD (Same.rd (same_new hu _) eq3) (.inl upd_same) (by show 4 + 1 ≤ sizeLine; decide) fun c H4 s4 ec => ?_
  refine ⟨szb, fun A0 hA0 => ?_⟩
  have s34 := (same_new hu (.tup [.ref pa])).trans s4
  have s5 := same_new hA0 (.lst [.ref c])
  have eA0 : (upd H4 A0 (.lst [.ref c])) A0 = some (.lst [.ref c]) := upd_same
  have ec5 := Same.rd s5 ec
  have s35 := s34.trans s5
  generalize upd H4 A0 (.lst [.ref c]) = H5 at *
  have s15 := s13.trans s35
  have en0 : Ent H5 names (p, r0) (.ref c) := ⟨c, pv, nm, gv, .ref da, pa, rdv, rowv, wkv, rfl, ec5, Same.dat s15 dp, List.mem_of_getElem? hj, Same.rd s35 epa, Same.dat s35 drow⟩
  -- its parts
  refine ⟨_, rfl, pa, _, _, _, rfl, rfl, .inl (Same.rd s35 epa), rfl, szb, fun e1 o1 he1 ho1 => ⟨szb, fun e2 o2 he2 ho2 => ?_⟩⟩
  have s6 := same_new he1 (.frz o1 (.tup []))
  have s7 := same_new he2 (.frz o2 (.tup []))
  have t1 : TupD (upd (upd H5 e1 (.frz o1 (.tup []))) e2 (.frz o2 (.tup []))) e1 [] := ⟨o1, s7 _ _ upd_same, ho1⟩
  have t2 : TupD (upd (upd H5 e1 (.frz o1 (.tup []))) e2 (.frz o2 (.tup []))) e2 [] := ⟨o2, upd_same, ho2⟩
  have s57 := s6.trans s7
  generalize upd (upd H5 e1 (.frz o1 (.tup []))) e2 (.frz o2 (.tup [])) = H7 at *
  have hnp : r0.np ≤ (if j = 0 then 18 else 2) := hr0.np
  have hw : (if j = 0 then 18 else 2) ≤ 18 := by split <;> omega
  have hdp : r0.dep ≤ 8 := hr0.dep
  refine ⟨rowv, .ref e1, e2, r0, [], names.drop (j + 1), 0, rfl, by omega, by omega, by omega, by show 0 + r0.dep ≤ 500; omega, hr0.nm, Same.dat (s35.trans s57) drow, .tup t1.rd .nil, ⟨[], t2, Nat.zero_le _, fun _ h => nomatch h⟩, fun LA lxs H8 eLA pLA s8 _ => ?_⟩
  have s58 := s57.trans s8
  have s18 := s15.trans s58
  have k18 : Kp [] H H8 := .same s18
  refine ⟨LA, rfl, ⟨_, .of eLA⟩, ?_⟩
  refine for_list (K := K) (xs := lxs) (fun i σ H9 => ∃ A, (∃ y5 y6 y7 y8, σ = [some hv, some (.ref va), some (.ref qa), some (.ref pa), some (.ref A), y5, y6, y7, y8]) ∧ Same H8 H9 ∧ Wi H8 H9 names p r0 j i A)
    ⟨A0, ⟨_, _, _, _, rfl⟩, .refl _, [], [.ref c], s58 _ _ eA0, rfl, (fun _ h => nomatch h), ?_, .refl⟩ (fun i σ H9 _ ⟨_, _, s9, _⟩ => .of (s9 _ _ eLA)) (fun i x σ H9 hx hP => ?_) fun σ H9 hP => ?_
  · simp only [R.flat, List.take_zero, List.zip_nil_left, List.flatMap_nil]
    exact .cons (en0.kp (ms := []) (.same s58)) .nil
  · obtain ⟨A, ⟨y5, y6, y7, y8, rfl⟩, s9, ts, fxs, eA, hti, hts, pE, k9⟩ := hP
    have hlen := Paired.length pLA
    have hi := (List.getElem?_eq_some_iff.mp hx).1
    obtain ⟨q0, hq0, hprt⟩ : ∃ q0, (r0.pts [])[i]? = some q0 ∧ Prt H8 (names.drop (j + 1)) (0 + r0.dep) q0 x := by
      have : ∀ {a : List (List Spot)} {b : List V} {i : Nat} {x : V}, Paired (Prt H8 (names.drop (j + 1)) (0 + r0.dep)) a b → b[i]? = some x → ∃ q0, a[i]? = some q0 ∧ Prt H8 (names.drop (j + 1)) (0 + r0.dep) q0 x := by
        intro a b i x h
        induction h generalizing i with
        | nil => intro e; simp at e
        | cons h t ih =>
          intro e
          cases i with
          | zero => simp at e; subst e; exact ⟨_, rfl, h⟩
          | succ i => exact ih (by simpa using e)
      exact this pLA hx
    obtain ⟨a, hv2, nm2, gv2, gs2, da2, rfl, ea, dhv, hnm2, dgv2, hgs2, hgl2, hdn2⟩ := hprt.kp (ms := []) (.same s9)
    obtain ⟨i2, hi2⟩ := List.getElem?_of_mem hnm2
    rw [List.getElem?_drop] at hi2
    have hj2l := (List.getElem?_eq_some_iff.mp hi2).1
    have ql := r0.pts_deep [] q0 (List.mem_of_getElem? hq0)
    simp only [List.length_nil] at ql
    refine ⟨a, _, rfl, .inl ea, rfl, _, _, rfl, _, _, rfl, _, _, rfl, _, _, rfl, rfl, ?_⟩
    have s19 := s18.trans s9
    have eq9 := Same.rd s19 eq
    refine ⟨_, rfl, _, rfl, _, rfl, _, rfl, qa, _, _, _, rfl, rfl, .inl eq9, rfl, _, rfl, ?_⟩
    -- the path
    obtain ⟨pva, pxs, rfl, epv, dpv⟩ := (Same.dat s19 dp).tup_inv
    obtain ⟨hva2, hxs2, rfl, ehv2, dhv2⟩ := dhv.tup_inv
    have lp := dpv.len
    have lh := dhv2.len
    rw [List.length_map] at lp lh
    refine catD epv ehv2 (sz _ (by omega)) fun c2 H10 s10 ec2 => ?_
    have dpath : Dat H10 (.ref c2) (pathD (p ++ q0)) := by
      have := (Same.dats s10 dpv).append (Same.dats s10 dhv2)
      rw [pathD, List.map_append]
      exact .tup ec2 this
    obtain ⟨ds, dds, hds, hdl⟩ := (hdn2.same s10).dat
    have hdna := (hdn.same (s19.trans s10))
    refine ⟨_, rfl, _, rfl, _, rfl, qa, _, _, _, rfl, rfl, .inl (Same.rd s10 eq9), rfl, _, rfl, da, .ref da2, m, ds, rfl, hdna, dds, hds, by omega, fun db H11 hdb s11 => ?_⟩
    refine ⟨szb, fun u2 hu2 => ?_⟩
    have s12 := same_new hu2 (.tup [.ref c2, .str nm2, gv2, .ref db])
    have eu2 : (upd H11 u2 (.tup [.ref c2, .str nm2, gv2, .ref db])) u2 = some (.tup [.ref c2, .str nm2, gv2, .ref db]) := upd_same
    generalize upd H11 u2 (.tup [.ref c2, .str nm2, gv2, .ref db]) = H12 at *
    have s912 := s10.trans (s11.trans s12)
    refine ⟨hv, va, u2, db, p ++ q0, nm2, m + ds.length, j + 1 + i2, names, hs, rfl, by omega, hh, Same.dat (s19.trans s912) hd, hva.same (s19.trans s912), ⟨_, _, gs2, .inl eu2, Same.dat (s11.trans s12) dpath, Same.dat s912 dgv2, hgs2, hgl2, hdb.same s12⟩, hi2, by omega, by rw [List.length_append]; omega, fun A2 xs2 t H13 eA2 pE2 ht s13' => ?_⟩
    have s913 := s912.trans s13'
    have htr : Tr (j + 1) t := ⟨ht.wf, by have := ht.dep; omega, Nat.le_trans ht.sz (Nat.mul_le_mul_left _ (by
      rcases Nat.eq_zero_or_pos i2 with h | h
      · rw [h]; exact Nat.le_refl _
      · exact Ez_anti (show j < j + 1 + i2 by omega)))⟩
    have hin : i < r0.np := by rw [← r0.pts_len []]; exact (List.getElem?_eq_some_iff.mp hq0).1
    -- sizes of the lists
    have l1 : fxs.length ≤ 60000 * (i + 1) := by
      rw [← Paired.length pE]
      have : ∀ (ps : List (List Spot)) (ts : List R), (∀ t ∈ ts, Tr (j + 1) t) → (R.flat ps ts).length ≤ 60000 * ts.length := by
        intro ps ts
        induction ts generalizing ps with
        | nil => intro _; simp [R.flat]
        | cons t ts ih =>
          intro h
          cases ps with
          | nil => simp [R.flat]
          | cons q ps =>
            have h1 := ih ps fun t m => h t (List.mem_cons_of_mem _ m)
            have h2 := (h t (List.mem_cons_self ..)).sz
            have h3 := t.subs_sz q
            have h4 := Ez_le (j + 1)
            have e : R.flat (q :: ps) (t :: ts) = t.ents q ++ R.flat ps ts := by simp [R.flat]
            rw [e, List.length_append, List.length_cons]
            show (t.subs q).length + 1 + (R.flat ps ts).length ≤ _
            omega
      have := this ((r0.pts p).take i) ts hts
      rw [List.length_cons]
      omega
    have l2 : xs2.length ≤ 60000 := by
      rw [← Paired.length pE2]
      have h2 := ht.sz
      have h3 := t.subs_sz (p ++ q0)
      have h4 := Ez_le (j + 1 + i2)
      show (t.subs (p ++ q0)).length + 1 ≤ _
      omega
    refine ⟨A, A2, fxs, xs2, rfl, rfl, s913 _ _ eA, eA2, Nat.le_trans (show fxs.length + xs2.length ≤ 16000000 by omega) (by decide), fun A3 hA3 => ?_⟩
    have s14 := same_new hA3 (.lst (fxs ++ xs2))
    have s914 := s913.trans s14
    refine ⟨A3, ⟨_, _, _, _, rfl⟩, s9.trans s914, ts ++ [t], fxs ++ xs2, upd_same, by simp [hti], fun t' m' => ?_, ?_, k9.trans (.same s914)⟩
    · rcases List.mem_append.mp m' with m' | m'
      · exact hts t' m'
      · rw [List.mem_singleton.mp m']; exact htr
    · have e : (r0.pts p)[i]? = some (p ++ q0) := by
        rw [r0.pts_nil p, List.getElem?_map, hq0]
        rfl
      rw [R.flat_snoc hti e, ← List.cons_append]
      exact Paired.app (Paired.mono (fun a b h => h.kp (ms := []) (.same s914)) pE) (Paired.mono (fun a b h => h.kp (ms := []) (.same s14)) pE2)
  · obtain ⟨A, ⟨y5, y6, y7, y8, rfl⟩, s9, ts, fxs, eA, hti, hts, pE, k9⟩ := hP
    have hlen := Paired.length pLA
    rw [R.pts_len] at hlen
    obtain ⟨r', hfl⟩ := R.fill r0 ts (by rw [hti]; exact hlen.symm)
    have hpl : (r0.pts p).take lxs.length = r0.pts p := List.take_of_length_le (by rw [R.pts_len]; omega)
    rw [hpl, ← hfl.subs] at pE
    refine ⟨_, rfl, q A fxs r' H9 eA ?_ ⟨hfl.Wf hr0.wf fun t m => (hts t m).wf, ?_, ?_⟩ (s18.trans s9)⟩
    · cases pE with
      | cons h t =>
        refine .cons ?_ t
        obtain ⟨a, pv, nm, gv, dv, pa, rd, rw', wk, h0, h1, h2, h3, h4, h5⟩ := h
        exact ⟨a, pv, nm, gv, dv, pa, rd, rw', wk, h0, h1, h2, h3, h4, by show Dat H9 rw' (.tup r'.D); rw [hfl.D]; exact h5⟩
    · have := hfl.dep (M := 8 * (6 - (j + 1))) fun t m => (hts t m).dep
      omega
    · have h1 := hfl.sz
      have h2 := R.szs_le (n := 48 * Ez (j + 1)) (ts := ts) fun t m => (hts t m).sz
      have h3 : ts.length ≤ (if j = 0 then 18 else 2) := by omega
      have h4 := Nat.mul_le_mul_right (48 * Ez (j + 1)) h3
      have h5 := Ez_step (show j < 6 by omega)
      have h7 := hr0.sz
      have h8 : (if j = 0 then 18 else 2) * (48 * Ez (j + 1)) = 48 * ((if j = 0 then 18 else 2) * Ez (j + 1)) := by
        rw [← Nat.mul_assoc, Nat.mul_comm _ 48, Nat.mul_assoc]
      rw [h8] at h4
      omega
end
end Vw

set_option maxHeartbeats 4000000
/-! a drawing from nothing; values -/
namespace Vw
open PySem PySem.Spec PyProof.Rows L2
open C8 (pss_cut tCut)

section
variable {P : Program} {w : World} {K : PySem.W.Frag} {mg : Str → Option Value} {base : Heap} {f : Addr} {fd : FuncData} {k : Nat}
def spFresh (P : Program) (w : World) : Sp := fun vs H Q _ => ∃ (hv : V) (va : Addr) (names : List Str) (hs : List D), vs = [hv, .ref va] ∧ HouseOk names hs ∧ Dat H hv (.tup hs) ∧ VOk P w H va ∧
  ∀ A xs r H', H' A = some (.lst xs) → Paired (Ent H' names) (r.ents []) xs → Tr 0 r → Same H H' → Q (.ref A) H'
theorem sc_law_fresh : FnScope ["_law_house_here", "_law_values_here"] ["_law_house_here", "_law_values_here"] (defScope (Vh.top 31)) := ⟨rfl, rfl, rfl, by decide +kernel, rfl, by decide +kernel, by decide +kernel⟩
theorem ok_fresh (F : Fun K "_law_fresh" "_law_fresh" (Vh.top 31) f fd) (B : Blt mg) (C_law_within : Cl P w K mg base k "_law_within" (spWithin 7 P w)) : FnOk P w K mg base CX0 (k + 1) f fd ["_law_house_here", "_law_values_here"] (spFresh P w) := by
  refine F.ok sc_law_fresh (fun vs H Q E h => ?_) (fun cdv A outer s H vs Q E hr h => ?_)
  · obtain ⟨hv, va, _, _, rfl, _⟩ := h
    rfl
  obtain ⟨hv, va, names, hs, rfl, hh, hd, hva, q⟩ := h
  refine ⟨_, (pss_one (ps_ret (pe_cl C_law_within hr (by rfl) (pa_cons (pv 0) (pa_cons (pv 1) (pa_cons (pe_tup (pa_cons (pe_tupF pa_nil) (pa_cons (pe_ix ix_tup (pe_ix ix_tup (pv 0) pe_int (fun _ _ => rfl)) pe_int (fun _ _ => rfl)) (pa_cons (pe_tupF pa_nil) (pa_cons (pe_tupF pa_nil) pa_nil))))) pa_nil)))))), ?_⟩
  obtain ⟨ha, xs, rfl, eha, dha⟩ := hd.tup_inv
  obtain ⟨d0, hs', rfl⟩ : ∃ d0 hs', hs = d0 :: hs' := by
    cases hs with
    | nil => have := hh.len; have := hh.pos; simp at *; omega
    | cons a b => exact ⟨a, b, rfl⟩
  obtain ⟨x0, xs', rfl, f0, _⟩ := dha.cons_inv
  obtain ⟨nm, first, works, lines, _, _, hn, rfl, _⟩ := hh.pt 0 d0 rfl
  obtain ⟨c, y0, y1, y2, y3, rfl, ec, g0, g1, g2, g3⟩ := f0.four
  obtain rfl := g0.str_inv
  refine ⟨_, rfl, _, rfl, szb, fun e1 o1 h1 ho1 => ?_⟩
  have s1 := same_new h1 (.frz o1 (.tup []))
  refine ⟨_, rfl, ha, _, _, _, rfl, rfl, .inl (Same.rd s1 eha), at_0, c, _, _, _, rfl, rfl, .inl (Same.rd s1 ec), rfl, szb, fun e2 o2 h2 ho2 => ⟨szb, fun e3 o3 h3 ho3 => ⟨szb, fun u hu => ?_⟩⟩⟩
  have s2 := same_new h2 (.frz o2 (.tup []))
  have s3 := same_new h3 (.frz o3 (.tup []))
  have s4 := same_new hu (.tup [.ref e1, .str nm, .ref e2, .ref e3])
  have hdue : Due (upd (upd (upd (upd H e1 (.frz o1 (.tup []))) e2 (.frz o2 (.tup []))) e3 (.frz o3 (.tup []))) u (.tup [.ref e1, .str nm, .ref e2, .ref e3])) u [] nm 0 e3 := by
    refine ⟨.ref e1, .ref e2, [], .inl upd_same, .tup (.inr ⟨o1, s4 _ _ (s3 _ _ (s2 _ _ upd_same))⟩) .nil, .tup (.inr ⟨o2, s4 _ _ (s3 _ _ upd_same)⟩) .nil, (fun _ h => nomatch h), by decide, [], ⟨o3, s4 _ _ upd_same, ho3⟩, Nat.le_refl _, fun _ h => nomatch h⟩
  have st := s1.trans (s2.trans (s3.trans s4))
  refine ⟨.ref ha, va, u, e3, [], nm, 0, 0, names, _, rfl, by decide, hh, Same.dat st hd, hva.same st, hdue, hn, by decide, by decide, fun A xs r H' e p t s => ?_⟩
  exact q A xs r H' e p t (st.trans s)

def spBoxes (K : PySem.W.Frag) : Sp := fun vs H Q _ => ∃ (t : Addr) (v : V) (names : List Str) (i : Nat) (d : D), vs = [.ref t, v] ∧ Tp K H t ∧ PartOk names i d ∧ Dat H v d ∧
  ∀ v' bs H', (∀ b ∈ bs, PrI b) → bs.length ≤ 12 → Dat H' v' (.tup bs) → Kp [t] H H' → Tp K H' t → Q v' H'
theorem sc_law_boxes : FnScope ["_law_tape_here", "_law_part_here", "_law_name", "_law_first"] ["_law_tape_here", "_law_part_here"] (defScope (Vh.top 32)) := ⟨rfl, rfl, rfl, by decide +kernel, rfl, by decide +kernel, by decide +kernel⟩
theorem ok_boxes (F : Fun K "_law_boxes" "_law_boxes" (Vh.top 32) f fd) (B : Blt mg) (C_law_number : Cl P w K mg base k "_law_number" (spNumber K)) : FnOk P w K mg base CX0 (k + 1) f fd ["_law_tape_here", "_law_part_here"] (spBoxes K) := by
  refine F.ok sc_law_boxes (fun vs H Q E h => ?_) (fun cdv A outer s H vs Q E hr h => ?_)
  · obtain ⟨t, v, _, _, _, rfl, _⟩ := h
    rfl
  obtain ⟨t, v, names, i, d, rfl, hT, ⟨nm, first, works, lines, _, _, hn, rfl, hf, hfl, _⟩, hd, q⟩ := h
  refine ⟨_, (pss_one (ps_ret (pe_callTy call_tuple_of (by rfl) B.tuple_ (by decide +kernel) (pa_cons (pe_lc (own := [("_law_name", 2), ("_law_first", 3)]) (g := (gTup K 2 (gCons (gName 2) (gCons (gName 3) gNil)))) (by rfl) sc_law_boxes.nd (pi_tup (pe_ix ix_tup (pv 1) pe_int (fun _ _ => rfl))) (blkOk_by (own := [("_law_name", 2), ("_law_first", 3)]) (N := ["_law_tape_here", "_law_part_here", "_law_name", "_law_first"]) (sc := defScope (Vh.top 32)) (by decide +kernel)) (fun _ _ _ _ _ => (pg_tup rfl (pgs_cons (pg_name (i := 2) sc_law_boxes.nd rfl (.inl rfl)) (pgs_cons (pg_name (i := 3) sc_law_boxes.nd rfl (.inl rfl)) pgs_nil)))) (fun _ _ _ _ _ => pts_nil) (fun _ _ _ _ _ => (pe_tup (pa_cons (pv 2) (pa_cons (pe_cl C_law_number hr (by rfl) (pa_cons (pv 0) pa_nil)) pa_nil))))) pa_nil)))), ?_⟩
  obtain ⟨c, y0, y1, y2, y3, rfl, ec, g0, g1, g2, g3⟩ := hd.four
  obtain ⟨fa, fxs, rfl, efa, dfa⟩ := g1.tup_inv
  refine ⟨_, rfl, c, _, _, _, rfl, rfl, .inl ec, rfl, fa, rfl, ⟨_, .inl efa⟩, fun A hA => ?_⟩
  refine lc_tup (K := K) (xs := fxs) (GI K t H A PrI) (.start hA hT) (fun j H4 _ g => .inl (g.1.tup _ _ efa)) (fun j y H4 hy g => ?_) fun H4 g => ?_
  · have hj := (List.getElem?_eq_some_iff.mp hy).1
    rw [dfa.len] at hj
    obtain ⟨d, hd1, hd2⟩ := dfa.at hy
    obtain ⟨bn, bi, rfl, si⟩ := hf d (List.mem_of_getElem? hd1)
    obtain ⟨c4, w0, w1, rfl, ec4, h0, h1⟩ := (g.1.dat hd2).two
    obtain rfl := h0.str_inv
    refine ⟨c4, _, rfl, .inl ec4, rfl, _, _, rfl, _, _, rfl, rfl, ?_⟩
    refine ⟨rfl, ?_⟩
    refine ⟨_, rfl, _, rfl, t, rfl, g.2.1, fun z H8 hz k8 T8 => ?_⟩
    refine ⟨szb, fun u hu => ?_⟩
    exact g.push hA hT (by omega) (k8.trans (.new hu)) (T8.same (same_new hu _)) (.made hu (.cons .str (.cons .int .nil))) ⟨bn, z, rfl, hz⟩
  · obtain ⟨k7, T7, ys, ds, e7, d7, hl7, r7⟩ := g
    refine ⟨A, ys, rfl, .inl ⟨.of e7, fun x hx => ?_⟩⟩
    refine q _ ds _ r7 ?_ (.made hx d7) (k7.trans (.new hx)) (T7.same (same_new hx _))
    rw [hl7, dfa.len]; exact hfl

def spVals (P : Program) (w : World) (K : PySem.W.Frag) : Sp := fun vs H Q _ => ∃ (t : Addr) (hv : V) (names : List Str) (hs : List D), vs = [.ref t, hv] ∧ Tp K H t ∧ HouseOk names hs ∧ Dat H hv (.tup hs) ∧
  ∀ va H', VOk P w H' va → Kp [t] H H' → Tp K H' t → Q (.ref va) H'
theorem sc_law_values : FnScope ["_law_tape_here", "_law_house_here", "_law_values_here", "_law_path", "_law_name", "_law_gives", "_law_downs", "_law_piece_here", "_law_way", "_law_part_here"] ["_law_tape_here", "_law_house_here"] (defScope (Vh.top 33)) := ⟨rfl, rfl, rfl, by decide +kernel, rfl, by decide +kernel, by decide +kernel⟩
theorem ok_values (F : Fun K "_law_values" "_law_values" (Vh.top 33) f fd) (B : Blt mg) (C_law_draw : Cl P w K mg base k "_law_draw" (spDraw K)) (C_law_named : Cl P w K mg base k "_law_named" spNamed) (C_law_fresh : Cl P w K mg base k "_law_fresh" (spFresh P w))
    (C_law_boxes : Cl P w K mg base k "_law_boxes" (spBoxes K)) : FnOk P w K mg base CX0 (k + 1) f fd ["_law_tape_here", "_law_house_here"] (spVals P w K) := by
  refine F.ok sc_law_values (fun vs H Q E h => ?_) (fun cdv A outer s H vs Q E hr h => ?_)
  · obtain ⟨t, hv, _, _, rfl, _⟩ := h
    rfl
  obtain ⟨t, hv, names, hs, rfl, hT, hh, hd, q⟩ := h
  refine ⟨_, (pss_cons (ps_set (i := 2) sc_law_values.nd rfl (Or.inl rfl) pe_nnew)
  (pss_cons (ps_for PassesOwn.never rfl (pi_list (pe_cl C_law_fresh hr (by rfl) (pa_cons (pv 1) (pa_cons pe_nnew pa_nil)))) (pg_tup rfl (pgs_cons (pg_name (i := 3) sc_law_values.nd rfl (.inl rfl)) (pgs_cons (pg_name (i := 4) sc_law_values.nd rfl (.inl rfl)) (pgs_cons (pg_name (i := 5) sc_law_values.nd rfl (.inl rfl)) (pgs_cons (pg_name (i := 6) sc_law_values.nd rfl (.inl rfl)) (pgs_cons (pg_name (i := 7) sc_law_values.nd rfl (.inl rfl)) pgs_nil)))))) (pss_cons (ps_set (i := 8) sc_law_values.nd rfl (Or.inl rfl) (pe_cl C_law_draw hr (by rfl) (pa_cons (pv 0) (pa_cons pe_int pa_nil))))
  (pss_one (ps_if (pt_cmpR op_lt (pv 8) pe_int (nomark _)) (pss_cons (ps_set (i := 9) sc_law_values.nd rfl (Or.inl rfl) (pe_cl C_law_named hr (by rfl) (pa_cons (pv 1) (pa_cons (pv 4) pa_nil))))
  (pss_cut (ps_if (pt_cmpR op_eq (pv 8) pe_int (nomark _)) (pss_one (ps_set (i := 9) sc_law_values.nd rfl (Or.inl rfl) (pe_ix ix_tup (pv 1) (pe_cl C_law_draw hr (by rfl) (pa_cons (pv 0) (pa_cons (pe_callB call_len_seq (by rfl) B.len_ (by decide +kernel) (pa_cons (pv 1) pa_nil)) pa_nil))) (fun _ _ => rfl)))) pss_nil)
  (pss_one (ps_nput (hu10 hr) (pv 2) (pv 3) (pe_tup (pa_cons (pe_ix ix_tup (pv 9) pe_int (fun _ _ => rfl)) (pa_cons (pe_cl C_law_boxes hr (by rfl) (pa_cons (pv 0) (pa_cons (pv 9) pa_nil))) pa_nil))) rfl)))) pss_nil))))
  (pss_one (ps_ret (pv 2))))), ?_⟩
  obtain ⟨ha, hxs, rfl, eha, dha⟩ := hd.tup_inv
  refine fun va H1 hva k1 nd1 => ?_
  have s1 : Same H H1 := k1.nil fun b hb => by rw [List.mem_singleton.mp hb]; exact hva
  refine ⟨_, rfl, fun vb H2 hvb k2 nd2 => ?_⟩
  have s2 : Same H1 H2 := k2.nil fun b hb => by rw [List.mem_singleton.mp hb]; exact hvb
  have s12 := s1.trans s2
  refine ⟨.ref ha, vb, names, hs, rfl, hh, Same.dat s12 hd, ⟨[], nd2, fun k v e => nomatch e⟩, fun LA xs r H3 eLA pE tr s3 => ?_⟩
  have s13 := s12.trans s3
  have T3 := hT.same s13
  have nd3 : ND P w H3 va [] := nd1.kp (ms := []) (.same (s2.trans s3)) (by simp)
  have nt : t ≠ va := by
    obtain ⟨_, _, _, _, _, e, _⟩ := id hT
    exact ne_of_none e hva
  have nl : LA ∉ [t, va] := by
    obtain ⟨φ, e⟩ := nd3.ns
    have h2 : LA ≠ va := ne_of eLA e fun z => nomatch z
    have h1 : LA ≠ t := by
      obtain ⟨s, _, i0, n0, j0, e, _⟩ := id T3
      refine ne_of eLA e fun z => ?_
      cases z
      obtain ⟨e0, he⟩ := Paired.right pE (.int i0) (by simp)
      obtain ⟨_, _, _, _, _, _, _, _, _, h, _⟩ := he
      cases h
    simp [h1, h2]
  have hlen := Paired.length pE
  have hents := tr.ents []
  refine ⟨LA, rfl, ⟨_, .of eLA⟩, ?_⟩
  refine for_list (K := K) (xs := xs) (fun i σ H4 => (∃ y3 y4 y5 y6 y7 y8 y9, σ = [some (.ref t), some (.ref ha), some (.ref va), y3, y4, y5, y6, y7, y8, y9]) ∧ Kp [t, va] H3 H4 ∧ Tp K H4 t ∧
      ∃ kvs, ND P w H4 va kvs ∧ kvs.length ≤ i ∧ ∀ k v, valV kvs k = some v → ∃ (nm : Str) (bs : List D), Dat H4 v (.tup [.str nm, .tup bs]) ∧ (∀ b ∈ bs, PrI b) ∧ bs.length ≤ 12)
    ⟨⟨_, _, _, _, _, _, _, rfl⟩, .refl, T3, [], nd3, Nat.le_refl _, fun k v e => nomatch e⟩ (fun i σ H4 _ hP => .of (hP.2.1.all _ _ nl eLA)) (fun i x σ H4 hx hP => ?_) fun σ H4 hP => ?_
  · obtain ⟨⟨y3, y4, y5, y6, y7, y8, y9, rfl⟩, k4, T4, kvs, nd4, l4, h4⟩ := hP
    have hi := (List.getElem?_eq_some_iff.mp hx).1
    obtain ⟨e0, hE⟩ : ∃ e0, Ent H4 names e0 x := by
      obtain ⟨e0, he⟩ := Paired.right pE x (List.mem_of_getElem? hx)
      exact ⟨e0, he.kp k4⟩
    obtain ⟨a, pv, nm, gv, dv, pa, rdv, rwv, wkv, rfl, ea, dpv, hnm, epa, drw⟩ := hE
    refine ⟨a, _, rfl, .inl ea, rfl, _, _, rfl, _, _, rfl, _, _, rfl, _, _, rfl, _, _, rfl, rfl, ?_⟩
    refine ⟨_, rfl, t, 6, rfl, by decide, by decide, T4, fun way H5 w0 w1 k5 T5 => ?_⟩
    refine ⟨_, rfl, _, _, rfl, rfl, _, rfl, ?_⟩
    have k45 : Kp [t, va] H3 H5 := k4.trans k5.tc
    have nd5 : ND P w H5 va kvs := nd4.kp k5 (by simpa using nt.symm)
    refine ite2 (fun _ => ?_) (fun _ => ⟨⟨_, _, _, _, _, _, _, rfl⟩, k45, T5, kvs, nd5, by omega, fun k v e => ?_⟩)
    · obtain ⟨j, hj⟩ := List.getElem?_of_mem hnm
      have hd5 := k45.dat (Same.dat s13 hd)
      refine ⟨_, rfl, _, rfl, .ref ha, nm, names, hs, j, rfl, hh, hd5, hj, fun v d H6 hjd dvv s6 => ?_⟩
      have T6 := T5.same s6
      refine ⟨fun σ' H' => ∃ v' d' i', σ' = [some (.ref t), some (.ref ha), some (.ref va), some pv, some (.str nm), some gv, some dv, some (.ref pa), some (.int way), some v'] ∧ PartOk names i' d' ∧ Dat H' v' d' ∧ Kp [t] H6 H' ∧ Tp K H' t, ?_, ?_⟩
      · refine ⟨_, rfl, rfl, _, rfl, ?_⟩
        refine ite2 (fun _ => ?_) (fun _ => ⟨v, d, j, rfl, hh.pt j d hjd, dvv, .refl, T6⟩)
        have eha6 := Same.rd s6 (k45.tup _ _ (Same.rd s13 eha))
        have hxl : hxs.length = names.length := by rw [dha.len, hh.len]
        have hpos := hh.pos
        have hsix := hh.six
        refine ⟨_, rfl, _, rfl, _, rfl, ha, _, rfl, .inr (.inl eha6), t, _, rfl, by omega, by omega, T6, fun b H7 b0 b1 k7 T7 => ?_⟩
        have hb : b.toNat < hxs.length := by omega
        have hat : atI hxs b = some hxs[b.toNat] := atI_of b0 (List.getElem?_eq_getElem hb)
        obtain ⟨d', hd1, hd2⟩ := dha.at (List.getElem?_eq_getElem hb)
        exact ⟨ha, _, _, _, rfl, rfl, .inl (k7.tup _ _ eha6), hat, _, d', _, rfl, hh.pt _ d' hd1, k7.dat (Same.dat s6 (k45.dat (Same.dat s13 hd2))), k7, T7⟩
      · rintro _ H7 ⟨v', d', i', rfl, hp', dv', k7, T7⟩
        obtain ⟨nm', first, works, lines, _, _, hn', rfl, _⟩ := id hp'
        obtain ⟨c, y0, y1, y2, y3, rfl, ec, g0, g1, g2, g3⟩ := dv'.four
        obtain rfl := g0.str_inv
        refine ⟨_, rfl, c, _, _, _, rfl, rfl, .inl ec, rfl, _, rfl, _, rfl, t, .ref c, names, i', _, rfl, T7, hp', dv', fun bv bs H8 hbs hbl dbv k8 T8 => ?_⟩
        refine ⟨szb, fun u hu => ?_⟩
        have k58 : Kp [t] H5 (upd H8 u (.tup [.str nm', bv])) := (Kp.same s6).trans (k7.trans (k8.trans (.new hu)))
        have T9 := T8.same (same_new hu (.tup [.str nm', bv]))
        have dnew : Dat (upd H8 u (.tup [.str nm', bv])) (.ref u) (.tup [.str nm', .tup bs]) := .made hu (.cons .str (.cons dbv .nil))
        generalize upd H8 u (.tup [.str nm', bv]) = H9 at *
        obtain ⟨pb, rfl, nk⟩ := NK.path (k58.dat (k5.dat dpv))
        refine ⟨_, rfl, _, rfl, va, pb, kvs, _, rfl, rfl, nd5.kp k58 (by simpa using nt.symm), nk, Nat.lt_of_le_of_lt (show kvs.length ≤ 200000 by omega) (by decide), fun H10 k10 nd10 => ?_⟩
        have k4x : Kp [t, va] H4 H10 := k5.tc.trans (k58.tc.trans (k10.sub fun b hb => by simp [List.mem_singleton.mp hb]))
        refine ⟨⟨_, _, _, _, _, _, _, rfl⟩, k4.trans k4x, T9.kp k10 (by simpa using nt), _, nd10, ?_, fun k v e => ?_⟩
        · have := length_putK kvs (pathK e0.1) (.ref u); omega
        · rw [valV_put] at e
          split at e
          · cases e
            exact ⟨nm', bs, k10.dat dnew, hbs, hbl⟩
          · obtain ⟨nm2, bs2, d2, r2⟩ := h4 k v e
            exact ⟨nm2, bs2, k4x.dat d2, r2⟩
    · obtain ⟨nm2, bs2, d2, r2⟩ := h4 k v e
      exact ⟨nm2, bs2, k5.dat d2, r2⟩
  · obtain ⟨⟨y3, y4, y5, y6, y7, y8, y9, rfl⟩, k4, T4, kvs, nd4, l4, h4⟩ := hP
    refine ⟨_, rfl, q va H4 ⟨kvs, nd4, h4⟩ ?_ T4⟩
    have kk : Kp [t, va] H H4 := (Kp.same s13).trans k4
    exact kk.drop fun b hb => by
      simp at hb
      rcases hb with rfl | rfl
      · exact .inl (by simp)
      · exact .inr hva
end
end Vw

set_option maxHeartbeats 4000000
/-! the boxes of a row -/
namespace Vw
open PySem PySem.Spec PyProof.Rows L2
open C8 (pss_cut tCut)

theorem cut_whole {xs : List V} {lo hi : Option Int} (h : HT.sIx xs.length 0 lo = 0 ∧ HT.sIx xs.length xs.length hi = xs.length) : cutV xs lo hi = xs := by
  unfold cutV
  rw [h.1, h.2, List.drop_zero, Nat.sub_zero, List.take_length]
theorem slD {K : PySem.W.Frag} {a : Addr} {xs : List V} {lo hi : Option Int} {H : Hp} {Q : VK} (h : Rd H a (.tup xs)) (q : ∀ c H', Same H H' → Rd H' c (.tup (cutV xs lo hi)) → Q (.ref c) H') : rSlA K (.ref a) lo hi H Q :=
  ⟨a, xs, rfl, .inl h, fun e => q a H (.refl H) (by rw [cut_whole e]; exact h), fun _ p hp => q p _ (same_new hp _) (.inl upd_same)⟩
theorem NK.of {H : Hp} {b : Addr} {p : List Spot} (h : Dat H (.ref b) (pathD p)) : NK H b (pathK p) := ⟨by rw [nkD_path]; exact h, depth_path p⟩
/-- the dict has the rows of all the parts -/
def Has (H : Hp) (kvs : List (NestedKey × V)) (b : List Spot) (r : R) : Prop := ∀ q r', (q, r') ∈ r.subs b → ∃ v, valV kvs (pathK q) = some v ∧ Dat H v (.tup r'.D)
theorem Has.same {H H' : Hp} {kvs : List (NestedKey × V)} {b : List Spot} {r : R} (h : Has H kvs b r) (s : Same H H') : Has H' kvs b r := fun q r' m => let ⟨v, e, d⟩ := h q r' m; ⟨v, e, Same.dat s d⟩
/-- where a walk over a row stands -/
structure Bs (r rest : R) (p b a : List Spot) (done : List D) (i : Nat) : Prop where
  rows : rest.D = r.D.drop i
  wf : rest.Wf
  dep : rest.dep ≤ r.dep
  sz : rest.sz ≤ r.sz
  sub : ∀ e ∈ rest.subs b, e ∈ r.subs b
  out : done ++ rest.bx p b a = r.bx p b a
theorem Bs.start {r : R} {p b a : List Spot} (h : r.Wf) : Bs r r p b a [] 0 := ⟨rfl, h, Nat.le_refl _, Nat.le_refl _, fun _ m => m, rfl⟩
theorem Bs.end {r rest : R} {p b a : List Spot} {done : List D} {i : Nat} (h : Bs r rest p b a done i) (hi : r.D.length ≤ i) : done = r.bx p b a := by
  have e : rest.D = [] := by rw [h.rows, List.drop_of_length_le hi]
  have : rest = .nil := by
    cases rest with
    | nil => rfl
    | _ => cases e
  rw [← h.out, this]
  simp [R.bx]
theorem Bs.len {r rest : R} {p b a : List Spot} {done : List D} {i : Nat} (h : Bs r rest p b a done i) : done.length + (rest.bx p b a).length ≤ r.sz := by
  have := congrArg List.length h.out
  rw [List.length_append] at this
  have := r.bx_len p b a
  omega

section
variable {P : Program} {w : World} {K : PySem.W.Frag} {mg : Str → Option Value} {base : Heap} {f : Addr} {fd : FuncData} {k : Nat}
def spBx (n : Nat) (P : Program) (w : World) : Sp := fun vs H Q _ => ∃ (ea : Addr) (pq rv bv av : V) (r : R) (p b a : List Spot) (kvs : List (NestedKey × V)), vs = [.ref ea, pq, rv, bv, av] ∧ r.dep < n ∧ r.Wf ∧ r.sz ≤ 100000 ∧ b.length + r.dep ≤ 400 ∧ a.length + r.dep ≤ 400 ∧
  ND P w H ea kvs ∧ Has H kvs b r ∧ Dat H pq (pathD p) ∧ Dat H rv (.tup r.D) ∧ Dat H bv (pathD b) ∧ Dat H av (pathD a) ∧
  ∀ v H', Dat H' v (.tup (r.bx p b a)) → Same H H' → Q v H'
theorem scboxes_of : FnScope ["entries", "path", "row", "base", "ahead", "found", "want", "here", "label", "hands", "hand"] ["entries", "path", "row", "base", "ahead"] (defScope (Vh.top 1)) := ⟨rfl, rfl, rfl, by decide +kernel, rfl, by decide +kernel, by decide +kernel⟩
theorem ok_boxes_of {n : Nat} (F : Fun K "boxes_of" "boxes_of" (Vh.top 1) f fd) (B : Blt mg) (Cboxes_of : Cl P w K mg base k "boxes_of" (spBx n P w)) : FnOk P w K mg base CX0 (k + 1) f fd ["entries", "path", "row", "base", "ahead"] (spBx (n + 1) P w) := by
  refine F.ok scboxes_of (fun vs H Q E h => ?_) (fun cdv A outer s H vs Q E hr h => ?_)
  · obtain ⟨ea, pq, rv, bv, av, _, _, _, _, _, rfl, _⟩ := h
    rfl
  obtain ⟨ea, pq, rv, bv, av, r, p, b, a, kvs, rfl, hdep, hwf, hsz, hb, ha, nd, has, hpv, hrv, hbv, hav, q⟩ := h
  refine ⟨_, (pss_cons (ps_set (i := 5) scboxes_of.nd rfl (Or.inl rfl) (pe_lst pa_nil))
  (pss_cons (ps_for PassesOwn.never rfl (pi_tup (pv 2)) (pg_name (i := 6) scboxes_of.nd rfl (.inl rfl)) (pss_cons (ps_set (i := 7) scboxes_of.nd rfl (Or.inl rfl) (pe_op op_catA (pv 3) (pe_tup (pa_cons (pe_ix ix_tup (pv 6) pe_int (fun _ _ => rfl)) pa_nil))))
  (pss_cons (ps_set (i := 8) scboxes_of.nd rfl (Or.inl rfl) (pe_op op_catA (pv 4) (pe_tup (pa_cons (pe_ix ix_tup (pv 6) pe_int (fun _ _ => rfl)) pa_nil))))
  (pss_one (ps_if (pt_cmpR op_eq (pe_ix ix_tup (pv 6) pe_int (fun _ _ => rfl)) pe_str (nomark _)) (pss_one (ps_expr (pe_bm PySem.F.plainAttrs_list PySem.F.slot_list_extend PySem.F.type_list_extend mt_extendT (pv 5) (pa_cons (pe_cl Cboxes_of hr (by rfl) (pa_cons (pv 0) (pa_cons (pv 7) (pa_cons (pe_nget (hu10 hr) (pv 0) (pv 7) (fun _ _ => rfl)) (pa_cons (pv 7) (pa_cons (pv 8) pa_nil)))))) pa_nil)))) (pss_one (ps_if (pt_cmpR op_eq (pe_ix ix_tup (pv 6) pe_int (fun _ _ => rfl)) pe_str (nomark _)) (pss_one (ps_expr (pe_bm PySem.F.plainAttrs_list PySem.F.slot_list_extend PySem.F.type_list_extend mt_extendT (pv 5) (pa_cons (pe_cl Cboxes_of hr (by rfl) (pa_cons (pv 0) (pa_cons (pv 1) (pa_cons (pe_ix ix_tup (pv 6) pe_int (fun _ _ => rfl)) (pa_cons (pv 7) (pa_cons (pv 8) pa_nil)))))) pa_nil)))) (pss_cons (ps_set (i := 9) scboxes_of.nd rfl (Or.inl rfl) (pe_callTy call_tuple_of (by rfl) B.tuple_ (by decide +kernel) (pa_cons (pe_lc (own := [("hand", 10)]) (g := (gName 10)) (by rfl) scboxes_of.nd (pi_tup (pe_ix ix_tup (pv 6) pe_int (fun _ _ => rfl))) (blkOk_by (own := [("hand", 10)]) (N := ["entries", "path", "row", "base", "ahead", "found", "want", "here", "label", "hands", "hand"]) (sc := defScope (Vh.top 1)) (by decide +kernel)) (fun _ _ _ _ _ => (pg_name (i := 10) scboxes_of.nd rfl (.inl rfl))) (fun _ _ _ _ _ => pts_nil) (fun _ _ _ _ _ => (pe_op (op_catAK (K := K)) (pe_op (op_catAK (K := K)) (pe_slice (sl_tupAK (K := K)) (pv 10) po_none (po_some pe_int)) (pe_tup (pa_cons (pv 1) pa_nil))) (pe_slice (sl_tupAK (K := K)) (pv 10) (po_some pe_int) po_none)))) pa_nil)))
  (pss_one (ps_expr (pe_bm PySem.F.plainAttrs_list PySem.F.slot_list_append PySem.F.type_list_append mt_append (pv 5) (pa_cons (pe_tup (pa_cons (pv 8) (pa_cons (pe_tup (pa_cons (pe_ix ix_tup (pv 6) pe_int (fun _ _ => rfl)) (pa_cons (pe_ix ix_tup (pv 6) pe_int (fun _ _ => rfl)) (pa_cons (pv 9) (pa_cons (pe_cl Cboxes_of hr (by rfl) (pa_cons (pv 0) (pa_cons (pv 1) (pa_cons (pe_ix ix_tup (pv 6) pe_int (fun _ _ => rfl)) (pa_cons (pv 7) (pa_cons (pe_tup pa_nil) pa_nil)))))) pa_nil))))) pa_nil))) pa_nil))))))))))))
  (pss_one (ps_ret (pe_callTy call_tuple_of (by rfl) B.tuple_ (by decide +kernel) (pa_cons (pv 5) pa_nil)))))), ?_⟩
  obtain ⟨ra, rxs, rfl, era, dra⟩ := hrv.tup_inv
  obtain ⟨ba, bxs, rfl, eba, _⟩ := id hbv.tup_inv
  obtain ⟨aa, axs, rfl, eaa, _⟩ := id hav.tup_inv
  refine ⟨szb, fun A hA => ?_⟩
  refine ⟨_, rfl, ra, rfl, ⟨_, .inl (Same.rd (same_new hA _) era)⟩, ?_⟩
  refine for_tup (K := K) (xs := rxs) (fun i σ H3 => (∃ y6 y7 y8 y9 y10, σ = [some (.ref ea), some pq, some (.ref ra), some (.ref ba), some (.ref aa), some (.ref A), y6, y7, y8, y9, y10]) ∧ Kp [] H H3 ∧ ∃ rest done xs, Bs r rest p b a done i ∧ H3 A = some (.lst xs) ∧ Dats H3 xs done)
    ⟨⟨_, _, _, _, _, rfl⟩, .new hA, r, [], [], .start hwf, upd_same, .nil⟩ (fun i σ H3 _ hP => .inl (hP.2.1.tup _ _ era)) (fun i y σ H3 hy hP => ?_) fun σ H3 hP => ?_
  · obtain ⟨⟨y6, y7, y8, y9, y10, rfl⟩, k3, rest, done, xs, bs, eA, dA⟩ := hP
    obtain ⟨d, hd1, hd2⟩ := dra.at hy
    have hi := (List.getElem?_eq_some_iff.mp hd1).1
    have hD := bs.rows
    rw [List.drop_eq_getElem_cons hi, (List.getElem?_eq_some_iff.mp hd1).2] at hD
    have dd := k3.dat hd2
    have s3 := k3.toSame
    have bl := bs.len
    have xl : xs.length = done.length := dA.len
    obtain ⟨_, hw, hdp, hsz2, hsub, hbx⟩ := bs
    cases rest with
    | nil => cases hD
    | part sp name gives row next =>
      simp only [R.D, List.cons.injEq] at hD
      obtain ⟨rfl, hD⟩ := hD
      obtain ⟨_, hw1, hw2⟩ := hw
      have hrow : row.dep + 1 ≤ r.dep := by simp only [R.dep] at hdp; omega
      have hrsz : row.sz ≤ r.sz := by simp only [R.sz] at hsz2; omega
      obtain ⟨c, y0, y1, y2, y3, rfl, ec, d0, d1, d2, d3⟩ := dd.four
      obtain rfl := d0.str_inv
      refine ⟨_, rfl, _, rfl, c, _, _, _, rfl, rfl, .inl ec, rfl, szb, fun u hu => ?_⟩
      refine hereD (Same.dat s3 hbv) d1 hu (by omega) fun hc H4 s4 dh => ?_
      have ec4 := Same.rd s4 ec
      refine ⟨_, rfl, _, rfl, c, _, _, _, rfl, rfl, .inl ec4, rfl, szb, fun u hu => ?_⟩
      refine hereD (Same.dat (s3.trans s4) hav) (Same.dat s4 d1) hu (by omega) fun lc H5 s5 dl => ?_
      have ec5 := Same.rd s5 ec4
      have s35 := s4.trans s5
      have s05 := s3.trans s35
      refine ⟨_, rfl, c, _, _, _, rfl, rfl, .inl ec5, rfl, rfl, _, rfl, ?_⟩
      refine ite2 (fun _ => ?_) (fun z => absurd (by decide) z)
      have eA5 := s35 _ _ eA
      have nd5 : ND P w H5 ea kvs := nd.kp (ms := []) (.same s05) (by simp)
      obtain ⟨ev, hev, dev⟩ := has.same s05 (b ++ [sp]) row (hsub _ (by simp [R.subs]))
      refine ⟨_, rfl, .inl ⟨rfl, _, .of eA5⟩, _, rfl, _, rfl, _, rfl, _, rfl, ea, hc, kvs, _, ev, rfl, rfl, nd5, NK.of (Same.dat s5 dh), hev, _, rfl, _, rfl, ea, .ref hc, ev, .ref hc, .ref lc, row, b ++ [sp], b ++ [sp], a ++ [sp], kvs, rfl, by omega, hw1, by omega, by rw [List.length_append, List.length_singleton]; omega, by rw [List.length_append, List.length_singleton]; omega, nd5, fun q r' m => has.same s05 q r' (hsub _ (by simp only [R.subs]; exact List.mem_append_left _ (List.mem_cons_of_mem _ m))), Same.dat s5 dh, dev, Same.dat s5 dh, dl, fun v H6 dv s6 => ?_⟩
      obtain ⟨va, vxs, rfl, eva, dva⟩ := dv.tup_inv
      have eA6 := s6 _ _ eA5
      have vl := dva.len
      have s36 := s35.trans s6
      simp only [R.bx, List.length_append] at bl
      refine ⟨A, va, xs, vxs, rfl, rfl, eA6, eva, Nat.le_trans (show xs.length + vxs.length ≤ 100000 by omega) (by decide), ⟨_, _, _, _, _, rfl⟩, (k3.trans (.same s36)).putN hA, next, done ++ row.bx (b ++ [sp]) (b ++ [sp]) (a ++ [sp]), _, ⟨hD, hw2, ?_, ?_, fun e m => hsub e ?_, ?_⟩, upd_same, ?_⟩
      · simp only [R.dep] at hdp; omega
      · simp only [R.sz] at hsz2; omega
      · simp only [R.subs]; exact List.mem_append_right _ m
      · rw [← hbx]; simp [R.bx]
      · exact ((Same.dats s36 dA).append dva).lst eA6 _
    | give sp name num row next =>
      simp only [R.D, List.cons.injEq] at hD
      obtain ⟨rfl, hD⟩ := hD
      obtain ⟨_, hw1, hw2⟩ := hw
      have hrow : row.dep + 1 ≤ r.dep := by simp only [R.dep] at hdp; omega
      have hrsz : row.sz ≤ r.sz := by simp only [R.sz] at hsz2; omega
      obtain ⟨c, y0, y1, y2, y3, y4, rfl, ec, d0, d1, d2, d3, d4⟩ := dd.five
      obtain rfl := d0.str_inv
      refine ⟨_, rfl, _, rfl, c, _, _, _, rfl, rfl, .inl ec, rfl, szb, fun u hu => ?_⟩
      refine hereD (Same.dat s3 hbv) d1 hu (by omega) fun hc H4 s4 dh => ?_
      have ec4 := Same.rd s4 ec
      refine ⟨_, rfl, _, rfl, c, _, _, _, rfl, rfl, .inl ec4, rfl, szb, fun u hu => ?_⟩
      refine hereD (Same.dat (s3.trans s4) hav) (Same.dat s4 d1) hu (by omega) fun lc H5 s5 dl => ?_
      have ec5 := Same.rd s5 ec4
      have s35 := s4.trans s5
      have s05 := s3.trans s35
      refine ⟨_, rfl, c, _, _, _, rfl, rfl, .inl ec5, rfl, rfl, _, rfl, ?_⟩
      refine ite2 (fun z => absurd z (no_eq (by decide))) (fun _ => ?_)
      refine ⟨_, rfl, c, _, _, _, rfl, rfl, .inl ec5, rfl, rfl, _, rfl, ?_⟩
      refine ite2 (fun _ => ?_) (fun z => absurd (by decide) z)
      have eA5 := s35 _ _ eA
      have nd5 : ND P w H5 ea kvs := nd.kp (ms := []) (.same s05) (by simp)
      refine ⟨_, rfl, .inl ⟨rfl, _, .of eA5⟩, _, rfl, _, rfl, _, rfl, c, _, _, _, rfl, rfl, .inl ec5, rfl, _, rfl, _, rfl, ea, pq, y4, .ref hc, .ref lc, row, p, b ++ [sp], a ++ [sp], kvs, rfl, by omega, hw1, by omega, by rw [List.length_append, List.length_singleton]; omega, by rw [List.length_append, List.length_singleton]; omega, nd5, fun q r' m => has.same s05 q r' (hsub _ (by simp only [R.subs]; exact List.mem_append_left _ m)), Same.dat s05 hpv, Same.dat s35 d4, Same.dat s5 dh, dl, fun v H6 dv s6 => ?_⟩
      obtain ⟨va, vxs, rfl, eva, dva⟩ := dv.tup_inv
      have eA6 := s6 _ _ eA5
      have vl := dva.len
      have s36 := s35.trans s6
      simp only [R.bx, List.length_append] at bl
      refine ⟨A, va, xs, vxs, rfl, rfl, eA6, eva, Nat.le_trans (show xs.length + vxs.length ≤ 100000 by omega) (by decide), ⟨_, _, _, _, _, rfl⟩, (k3.trans (.same s36)).putN hA, next, done ++ row.bx p (b ++ [sp]) (a ++ [sp]), _, ⟨hD, hw2, ?_, ?_, fun e m => hsub e ?_, ?_⟩, upd_same, ?_⟩
      · simp only [R.dep] at hdp; omega
      · simp only [R.sz] at hsz2; omega
      · simp only [R.subs]; exact List.mem_append_right _ m
      · rw [← hbx]; simp [R.bx]
      · exact ((Same.dats s36 dA).append dva).lst eA6 _
    | plain sp tag sets hands row next =>
      simp only [R.D, List.cons.injEq] at hD
      obtain ⟨rfl, hD⟩ := hD
      obtain ⟨hh1, hh2, _, hw1, hw2⟩ := hw
      have hrow : row.dep + 1 ≤ r.dep := by simp only [R.dep] at hdp; omega
      have hrsz : row.sz ≤ r.sz := by simp only [R.sz] at hsz2; omega
      obtain ⟨c, y0, y1, y2, y3, y4, y5, rfl, ec, d0, d1, d2, d3, d4, d5⟩ := dd.six
      obtain rfl := d0.str_inv
      obtain ⟨hda, hxs, rfl, ehd, dhd⟩ := d4.tup_inv
      refine ⟨_, rfl, _, rfl, c, _, _, _, rfl, rfl, .inl ec, rfl, szb, fun u hu => ?_⟩
      refine hereD (Same.dat s3 hbv) d1 hu (by omega) fun hc H4 s4 dh => ?_
      have ec4 := Same.rd s4 ec
      refine ⟨_, rfl, _, rfl, c, _, _, _, rfl, rfl, .inl ec4, rfl, szb, fun u hu => ?_⟩
      refine hereD (Same.dat (s3.trans s4) hav) (Same.dat s4 d1) hu (by omega) fun lc H5 s5 dl => ?_
      have ec5 := Same.rd s5 ec4
      have s35 := s4.trans s5
      have s05 := s3.trans s35
      refine ⟨_, rfl, c, _, _, _, rfl, rfl, .inl ec5, rfl, rfl, _, rfl, ?_⟩
      refine ite2 (fun z => absurd z (no_eq (by decide))) (fun _ => ?_)
      refine ⟨_, rfl, c, _, _, _, rfl, rfl, .inl ec5, rfl, rfl, _, rfl, ?_⟩
      refine ite2 (fun z => absurd z (no_eq (by decide))) (fun _ => ?_)
      have eA5 := s35 _ _ eA
      have dhd5 := Same.dats s35 dhd
      have dpv5 := Same.dat s05 hpv
      -- hands
      refine ⟨_, rfl, c, _, _, _, rfl, rfl, .inl ec5, rfl, hda, rfl, ⟨_, .inl (Same.rd s35 ehd)⟩, fun A2 hA2 => ?_⟩
      refine lc_tup (K := K) (xs := hxs) (fun j H6 => Kp [] H5 H6 ∧ ∃ ys, H6 A2 = some (.lst ys) ∧ Dats H6 ys ((hands.take j).map (R.ins p))) ⟨.new hA2, [], upd_same, by simp; exact .nil⟩ (fun j H6 _ g => .inl (g.1.tup _ _ (Same.rd s35 ehd))) (fun j y H6 hy g => ?_) fun H6 g => ?_
      · obtain ⟨k6, ys, e6, d6⟩ := g
        obtain ⟨hd, hh, e2⟩ := dhd5.at hy
        obtain ⟨ev, rank, lastb, ch, rfl, _⟩ := hh1.1 hd (List.mem_of_getElem? hh)
        have hj := (List.getElem?_eq_some_iff.mp hh).1
        obtain ⟨c2, z0, z1, z2, z3, rfl, ec2, f0, f1, f2, f3⟩ := (k6.dat e2).four
        refine ⟨rfl, ?_⟩
        refine ⟨_, rfl, _, rfl, slD ec2 fun c3 H7 s7 ec3 => ?_⟩
        refine ⟨_, rfl, szb, fun u2 hu2 => ?_⟩
        refine catD (Same.rd (same_new hu2 _) ec3) (.inl upd_same) (by show 3 + 1 ≤ sizeLine; decide) fun c4 H8 s8 ec4' => ?_
        have s78 := (same_new hu2 (.tup [pq])).trans s8
        have s68 := s7.trans s78
        refine ⟨_, rfl, _, rfl, ?_⟩
        unfold tNoPart
        refine slD (Same.rd s68 ec2) fun c5 H9 s9 ec5' => ?_
        refine catD (Same.rd s9 ec4') ec5' (by show 4 + 1 ≤ sizeLine; decide) fun c6 H10 s10 ec6 => ?_
        have s6x := s68.trans (s9.trans s10)
        have e10 := s6x _ _ e6
        refine ⟨ys, e10, ?_, (k6.trans (.same s6x)).putN hA2, _, upd_same, ?_⟩
        · rw [d6.len, List.length_map, List.length_take]
          exact small1000 (by omega)
        · rw [List.take_succ, hh, List.map_append]
          have dn : Dat H10 (.ref c6) (R.ins p (.tup [.str ev, .int rank, .bl lastb, .tup ch])) := .tup ec6 (.cons (Same.dat s6x f0) (.cons (Same.dat s6x f1) (.cons (Same.dat s6x f2) (.cons (Same.dat s6x (k6.dat dpv5)) (.cons (Same.dat s6x f3) .nil)))))
          exact ((Same.dats s6x d6).snoc dn).lst e10 _
      obtain ⟨k6, ys, e6, d6⟩ := g
      have hhl : hands.take hxs.length = hands := List.take_of_length_le (by rw [dhd.len]; omega)
      rw [hhl] at d6
      refine ⟨A2, ys, rfl, .inl ⟨.of e6, fun hn hhn => ?_⟩⟩
      have s7 := k6.toSame.trans (same_new hhn (.tup ys))
      have dhn : Dat (upd H6 hn (.tup ys)) (.ref hn) (.tup (hands.map (R.ins p))) := .made hhn d6
      generalize upd H6 hn (.tup ys) = H7 at *
      have ec7 := Same.rd s7 ec5
      have eA7 := s7 _ _ eA5
      have s37 := s35.trans s7
      have s07 := s3.trans s37
      refine ⟨_, rfl, .inl ⟨rfl, _, .of eA7⟩, _, rfl, _, rfl, c, _, _, _, rfl, rfl, .inl ec7, rfl, _, rfl, c, _, _, _, rfl, rfl, .inl ec7, rfl, _, rfl, _, rfl, _, rfl, _, rfl, c, _, _, _, rfl, rfl, .inl ec7, rfl, _, rfl, szb, fun u3 hu3 => ?_⟩
      have s8 := same_new hu3 (.tup [])
      have du3 : Dat (upd H7 u3 (.tup [])) (.ref u3) (pathD []) := .made hu3 .nil
      generalize upd H7 u3 (.tup []) = H8 at *
      have s38 := s37.trans s8
      have s08 := s3.trans s38
      refine ⟨ea, pq, y5, .ref hc, .ref u3, row, p, b ++ [sp], [], kvs, rfl, by omega, hw1, by omega, by rw [List.length_append, List.length_singleton]; omega, by show 0 + row.dep ≤ 400; omega, nd.kp (ms := []) (.same s08) (by simp), fun q r' m => has.same s08 q r' (hsub _ (by simp only [R.subs]; exact List.mem_append_left _ m)), Same.dat s08 hpv, Same.dat s38 d5, Same.dat (s5.trans (s7.trans s8)) dh, du3, fun v H9 dv s9 => ?_⟩
      refine ⟨szb, fun u4 hu4 => ⟨szb, fun u5 hu5 => ?_⟩⟩
      have t4 := same_new hu4 (.tup [y2, y3, .ref hn, v])
      have t5 := same_new hu5 (.tup [.ref lc, .ref u4])
      have s39 := s38.trans s9
      have d10 : Dat (upd (upd H9 u4 (.tup [y2, y3, .ref hn, v])) u5 (.tup [.ref lc, .ref u4])) (.ref u5) (.tup [pathD (a ++ [sp]), .tup [.str tag, .tup sets, .tup (hands.map (R.ins p)), .tup (row.bx p (b ++ [sp]) [])]]) :=
        .made hu5 (.cons (Same.dat (s7.trans (s8.trans (s9.trans t4))) dl) (.cons (.made hu4 (.cons (Same.dat s39 d2) (.cons (Same.dat s39 d3) (.cons (Same.dat (s8.trans s9) dhn) (.cons dv .nil))))) .nil))
      have s310 := s39.trans (t4.trans t5)
      generalize upd (upd H9 u4 (.tup [y2, y3, .ref hn, v])) u5 (.tup [.ref lc, .ref u4]) = H10 at *
      have eA10 := s310 _ _ eA
      simp only [R.bx, List.length_cons] at bl
      refine ⟨A, xs, _, rfl, rfl, eA10, Nat.lt_of_le_of_lt (show xs.length ≤ 100000 by omega) (by decide), ⟨_, _, _, _, _, rfl⟩, (k3.trans (.same s310)).putN hA, next, done ++ [_], _, ⟨hD, hw2, ?_, ?_, fun e m => hsub e ?_, ?_⟩, upd_same, ((Same.dats s310 dA).snoc d10).lst eA10 _⟩
      · simp only [R.dep] at hdp; omega
      · simp only [R.sz] at hsz2; omega
      · simp only [R.subs]; exact List.mem_append_right _ m
      · rw [← hbx]; simp [R.bx]
  · obtain ⟨⟨y6, y7, y8, y9, y10, rfl⟩, k3, rest, done, xs, bs, eA, dA⟩ := hP
    have hend := bs.end (by rw [dra.len]; exact Nat.le_refl _)
    rw [hend] at dA
    refine ⟨_, rfl, A, xs, rfl, .inl ⟨.of eA, fun x hx => ?_⟩⟩
    exact q _ _ (.made hx dA) (k3.toSame.trans (same_new hx _))
end
end Vw

set_option maxHeartbeats 4000000
/-! the boxes of a row, the law's own -/
namespace Vw
open PySem PySem.Spec PyProof.Rows L2
open C8 (pss_cut tCut)

section
variable {P : Program} {w : World} {K : PySem.W.Frag} {mg : Str → Option Value} {base : Heap} {f : Addr} {fd : FuncData} {k : Nat}
theorem sc_law_boxes_of : FnScope ["_law_entries", "_law_path", "_law_row_here", "_law_base", "_law_ahead", "_law_found", "_law_want", "_law_here", "_law_label", "_law_hands_here", "_law_inner", "_law_one"] ["_law_entries", "_law_path", "_law_row_here", "_law_base", "_law_ahead"] (defScope (Vh.top 36)) := ⟨rfl, rfl, rfl, by decide +kernel, rfl, by decide +kernel, by decide +kernel⟩
theorem ok_lboxes_of {n : Nat} (F : Fun K "_law_boxes_of" "_law_boxes_of" (Vh.top 36) f fd) (B : Blt mg) (C_law_boxes_of : Cl P w K mg base k "_law_boxes_of" (spBx n P w)) : FnOk P w K mg base CX0 (k + 1) f fd ["_law_entries", "_law_path", "_law_row_here", "_law_base", "_law_ahead"] (spBx (n + 1) P w) := by
  refine F.ok sc_law_boxes_of (fun vs H Q E h => ?_) (fun cdv A outer s H vs Q E hr h => ?_)
  · obtain ⟨ea, pq, rv, bv, av, _, _, _, _, _, rfl, _⟩ := h
    rfl
  obtain ⟨ea, pq, rv, bv, av, r, p, b, a, kvs, rfl, hdep, hwf, hsz, hb, ha, nd, has, hpv, hrv, hbv, hav, q⟩ := h
  refine ⟨_, (pss_cons (ps_set (i := 5) sc_law_boxes_of.nd rfl (Or.inl rfl) (pe_tup pa_nil))
  (pss_cons (ps_for PassesOwn.never rfl (pi_tup (pv 2)) (pg_name (i := 6) sc_law_boxes_of.nd rfl (.inl rfl)) (pss_cons (ps_set (i := 7) sc_law_boxes_of.nd rfl (Or.inl rfl) (pe_op op_catA (pv 3) (pe_tup (pa_cons (pe_ix ix_tup (pv 6) pe_int (fun _ _ => rfl)) pa_nil))))
  (pss_cons (ps_set (i := 8) sc_law_boxes_of.nd rfl (Or.inl rfl) (pe_op op_catA (pv 4) (pe_tup (pa_cons (pe_ix ix_tup (pv 6) pe_int (fun _ _ => rfl)) pa_nil))))
  (pss_one (ps_if (pt_cmpR op_eq (pe_ix ix_tup (pv 6) pe_int (fun _ _ => rfl)) pe_str (nomark _)) (pss_one (ps_set (i := 5) sc_law_boxes_of.nd rfl (Or.inl rfl) (pe_op op_catA (pv 5) (pe_cl C_law_boxes_of hr (by rfl) (pa_cons (pv 0) (pa_cons (pv 7) (pa_cons (pe_nget (hu10 hr) (pv 0) (pv 7) (fun _ _ => rfl)) (pa_cons (pv 7) (pa_cons (pv 8) pa_nil))))))))) (pss_one (ps_if (pt_cmpR op_eq (pe_ix ix_tup (pv 6) pe_int (fun _ _ => rfl)) pe_str (nomark _)) (pss_one (ps_set (i := 5) sc_law_boxes_of.nd rfl (Or.inl rfl) (pe_op op_catA (pv 5) (pe_cl C_law_boxes_of hr (by rfl) (pa_cons (pv 0) (pa_cons (pv 1) (pa_cons (pe_ix ix_tup (pv 6) pe_int (fun _ _ => rfl)) (pa_cons (pv 7) (pa_cons (pv 8) pa_nil))))))))) (pss_cons (ps_set (i := 9) sc_law_boxes_of.nd rfl (Or.inl rfl) (pe_callTy call_tuple_of (by rfl) B.tuple_ (by decide +kernel) (pa_cons (pe_lc (own := [("_law_one", 11)]) (g := (gName 11)) (by rfl) sc_law_boxes_of.nd (pi_tup (pe_ix ix_tup (pv 6) pe_int (fun _ _ => rfl))) (blkOk_by (own := [("_law_one", 11)]) (N := ["_law_entries", "_law_path", "_law_row_here", "_law_base", "_law_ahead", "_law_found", "_law_want", "_law_here", "_law_label", "_law_hands_here", "_law_inner", "_law_one"]) (sc := defScope (Vh.top 36)) (by decide +kernel)) (fun _ _ _ _ _ => (pg_name (i := 11) sc_law_boxes_of.nd rfl (.inl rfl))) (fun _ _ _ _ _ => pts_nil) (fun _ _ _ _ _ => (pe_op (op_catAK (K := K)) (pe_op (op_catAK (K := K)) (pe_slice (sl_tupAK (K := K)) (pv 11) po_none (po_some pe_int)) (pe_tup (pa_cons (pv 1) pa_nil))) (pe_slice (sl_tupAK (K := K)) (pv 11) (po_some pe_int) po_none)))) pa_nil)))
  (pss_cons (ps_set (i := 10) sc_law_boxes_of.nd rfl (Or.inl rfl) (pe_cl C_law_boxes_of hr (by rfl) (pa_cons (pv 0) (pa_cons (pv 1) (pa_cons (pe_ix ix_tup (pv 6) pe_int (fun _ _ => rfl)) (pa_cons (pv 7) (pa_cons (pe_tup pa_nil) pa_nil)))))))
  (pss_one (ps_set (i := 5) sc_law_boxes_of.nd rfl (Or.inl rfl) (pe_op op_catA (pv 5) (pe_tup (pa_cons (pe_tup (pa_cons (pv 8) (pa_cons (pe_tup (pa_cons (pe_ix ix_tup (pv 6) pe_int (fun _ _ => rfl)) (pa_cons (pe_ix ix_tup (pv 6) pe_int (fun _ _ => rfl)) (pa_cons (pv 9) (pa_cons (pv 10) pa_nil))))) pa_nil))) pa_nil))))))))))))))
  (pss_one (ps_ret (pv 5))))), ?_⟩
  obtain ⟨ra, rxs, rfl, era, dra⟩ := hrv.tup_inv
  obtain ⟨ba, bxs, rfl, eba, _⟩ := id hbv.tup_inv
  obtain ⟨aa, axs, rfl, eaa, _⟩ := id hav.tup_inv
  refine ⟨szb, fun A0 hA0 => ?_⟩
  refine ⟨_, rfl, ra, rfl, ⟨_, .inl (Same.rd (same_new hA0 _) era)⟩, ?_⟩
  refine for_tup (K := K) (xs := rxs) (fun i σ H3 => ∃ A, (∃ y6 y7 y8 y9 y10 y11, σ = [some (.ref ea), some pq, some (.ref ra), some (.ref ba), some (.ref aa), some (.ref A), y6, y7, y8, y9, y10, y11]) ∧ Same H H3 ∧ ∃ rest done xs, Bs r rest p b a done i ∧ Rd H3 A (.tup xs) ∧ Dats H3 xs done)
    ⟨A0, ⟨_, _, _, _, _, _, rfl⟩, same_new hA0 _, r, [], [], .start hwf, .inl upd_same, .nil⟩ (fun i σ H3 _ ⟨_, _, s3, _⟩ => .inl (Same.rd s3 era)) (fun i y σ H3 hy hP => ?_) fun σ H3 hP => ?_
  · obtain ⟨A, ⟨y6, y7, y8, y9, y10, y11, rfl⟩, s3, rest, done, xs, bs, eA, dA⟩ := hP
    obtain ⟨d, hd1, hd2⟩ := dra.at hy
    have hi := (List.getElem?_eq_some_iff.mp hd1).1
    have hD := bs.rows
    rw [List.drop_eq_getElem_cons hi, (List.getElem?_eq_some_iff.mp hd1).2] at hD
    have dd := Same.dat s3 hd2
    have bl := bs.len
    have xl : xs.length = done.length := dA.len
    obtain ⟨_, hw, hdp, hsz2, hsub, hbx⟩ := bs
    cases rest with
    | nil => cases hD
    | part sp name gives row next =>
      simp only [R.D, List.cons.injEq] at hD
      obtain ⟨rfl, hD⟩ := hD
      obtain ⟨_, hw1, hw2⟩ := hw
      have hrow : row.dep + 1 ≤ r.dep := by simp only [R.dep] at hdp; omega
      have hrsz : row.sz ≤ r.sz := by simp only [R.sz] at hsz2; omega
      obtain ⟨c, y0, y1, y2, y3, rfl, ec, d0, d1, d2, d3⟩ := dd.four
      obtain rfl := d0.str_inv
      refine ⟨_, rfl, _, rfl, c, _, _, _, rfl, rfl, .inl ec, rfl, szb, fun u hu => ?_⟩
      refine hereD (Same.dat s3 hbv) d1 hu (by omega) fun hc H4 s4 dh => ?_
      have ec4 := Same.rd s4 ec
      refine ⟨_, rfl, _, rfl, c, _, _, _, rfl, rfl, .inl ec4, rfl, szb, fun u hu => ?_⟩
      refine hereD (Same.dat (s3.trans s4) hav) (Same.dat s4 d1) hu (by omega) fun lc H5 s5 dl => ?_
      have ec5 := Same.rd s5 ec4
      have s35 := s4.trans s5
      have s05 := s3.trans s35
      refine ⟨_, rfl, c, _, _, _, rfl, rfl, .inl ec5, rfl, rfl, _, rfl, ?_⟩
      refine ite2 (fun _ => ?_) (fun z => absurd (by decide) z)
      have eA5 := Same.rd s35 eA
      have nd5 : ND P w H5 ea kvs := nd.kp (ms := []) (.same s05) (by simp)
      obtain ⟨ev, hev, dev⟩ := has.same s05 (b ++ [sp]) row (hsub _ (by simp [R.subs]))
      refine ⟨_, rfl, _, rfl, _, rfl, _, rfl, _, rfl, ea, hc, kvs, _, ev, rfl, rfl, nd5, NK.of (Same.dat s5 dh), hev, _, rfl, _, rfl, ea, .ref hc, ev, .ref hc, .ref lc, row, b ++ [sp], b ++ [sp], a ++ [sp], kvs, rfl, by omega, hw1, by omega, by rw [List.length_append, List.length_singleton]; omega, by rw [List.length_append, List.length_singleton]; omega, nd5, fun q r' m => has.same s05 q r' (hsub _ (by simp only [R.subs]; exact List.mem_append_left _ (List.mem_cons_of_mem _ m))), Same.dat s5 dh, dev, Same.dat s5 dh, dl, fun v H6 dv s6 => ?_⟩
      obtain ⟨va, vxs, rfl, eva, dva⟩ := dv.tup_inv
      have eA6 := Same.rd s6 eA5
      have vl := dva.len
      have s36 := s35.trans s6
      simp only [R.bx, List.length_append] at bl
      refine catD eA6 eva (Nat.le_trans (show xs.length + vxs.length ≤ 100000 by omega) (by decide)) fun A' H7 s7 eA7 => ?_
      refine ⟨A', ⟨_, _, _, _, _, _, rfl⟩, s3.trans (s36.trans s7), next, done ++ row.bx (b ++ [sp]) (b ++ [sp]) (a ++ [sp]), _, ⟨hD, hw2, ?_, ?_, fun e m => hsub e ?_, ?_⟩, eA7, ?_⟩
      · simp only [R.dep] at hdp; omega
      · simp only [R.sz] at hsz2; omega
      · simp only [R.subs]; exact List.mem_append_right _ m
      · rw [← hbx]; simp [R.bx]
      · exact (Same.dats (s36.trans s7) dA).append (Same.dats s7 dva)
    | give sp name num row next =>
      simp only [R.D, List.cons.injEq] at hD
      obtain ⟨rfl, hD⟩ := hD
      obtain ⟨_, hw1, hw2⟩ := hw
      have hrow : row.dep + 1 ≤ r.dep := by simp only [R.dep] at hdp; omega
      have hrsz : row.sz ≤ r.sz := by simp only [R.sz] at hsz2; omega
      obtain ⟨c, y0, y1, y2, y3, y4, rfl, ec, d0, d1, d2, d3, d4⟩ := dd.five
      obtain rfl := d0.str_inv
      refine ⟨_, rfl, _, rfl, c, _, _, _, rfl, rfl, .inl ec, rfl, szb, fun u hu => ?_⟩
      refine hereD (Same.dat s3 hbv) d1 hu (by omega) fun hc H4 s4 dh => ?_
      have ec4 := Same.rd s4 ec
      refine ⟨_, rfl, _, rfl, c, _, _, _, rfl, rfl, .inl ec4, rfl, szb, fun u hu => ?_⟩
      refine hereD (Same.dat (s3.trans s4) hav) (Same.dat s4 d1) hu (by omega) fun lc H5 s5 dl => ?_
      have ec5 := Same.rd s5 ec4
      have s35 := s4.trans s5
      have s05 := s3.trans s35
      refine ⟨_, rfl, c, _, _, _, rfl, rfl, .inl ec5, rfl, rfl, _, rfl, ?_⟩
      refine ite2 (fun z => absurd z (no_eq (by decide))) (fun _ => ?_)
      refine ⟨_, rfl, c, _, _, _, rfl, rfl, .inl ec5, rfl, rfl, _, rfl, ?_⟩
      refine ite2 (fun _ => ?_) (fun z => absurd (by decide) z)
      have eA5 := Same.rd s35 eA
      have nd5 : ND P w H5 ea kvs := nd.kp (ms := []) (.same s05) (by simp)
      refine ⟨_, rfl, _, rfl, _, rfl, _, rfl, c, _, _, _, rfl, rfl, .inl ec5, rfl, _, rfl, _, rfl, ea, pq, y4, .ref hc, .ref lc, row, p, b ++ [sp], a ++ [sp], kvs, rfl, by omega, hw1, by omega, by rw [List.length_append, List.length_singleton]; omega, by rw [List.length_append, List.length_singleton]; omega, nd5, fun q r' m => has.same s05 q r' (hsub _ (by simp only [R.subs]; exact List.mem_append_left _ m)), Same.dat s05 hpv, Same.dat s35 d4, Same.dat s5 dh, dl, fun v H6 dv s6 => ?_⟩
      obtain ⟨va, vxs, rfl, eva, dva⟩ := dv.tup_inv
      have eA6 := Same.rd s6 eA5
      have vl := dva.len
      have s36 := s35.trans s6
      simp only [R.bx, List.length_append] at bl
      refine catD eA6 eva (Nat.le_trans (show xs.length + vxs.length ≤ 100000 by omega) (by decide)) fun A' H7 s7 eA7 => ?_
      refine ⟨A', ⟨_, _, _, _, _, _, rfl⟩, s3.trans (s36.trans s7), next, done ++ row.bx p (b ++ [sp]) (a ++ [sp]), _, ⟨hD, hw2, ?_, ?_, fun e m => hsub e ?_, ?_⟩, eA7, ?_⟩
      · simp only [R.dep] at hdp; omega
      · simp only [R.sz] at hsz2; omega
      · simp only [R.subs]; exact List.mem_append_right _ m
      · rw [← hbx]; simp [R.bx]
      · exact (Same.dats (s36.trans s7) dA).append (Same.dats s7 dva)
    | plain sp tag sets hands row next =>
      simp only [R.D, List.cons.injEq] at hD
      obtain ⟨rfl, hD⟩ := hD
      obtain ⟨hh1, hh2, _, hw1, hw2⟩ := hw
      have hrow : row.dep + 1 ≤ r.dep := by simp only [R.dep] at hdp; omega
      have hrsz : row.sz ≤ r.sz := by simp only [R.sz] at hsz2; omega
      obtain ⟨c, y0, y1, y2, y3, y4, y5, rfl, ec, d0, d1, d2, d3, d4, d5⟩ := dd.six
      obtain rfl := d0.str_inv
      obtain ⟨hda, hxs, rfl, ehd, dhd⟩ := d4.tup_inv
      refine ⟨_, rfl, _, rfl, c, _, _, _, rfl, rfl, .inl ec, rfl, szb, fun u hu => ?_⟩
      refine hereD (Same.dat s3 hbv) d1 hu (by omega) fun hc H4 s4 dh => ?_
      have ec4 := Same.rd s4 ec
      refine ⟨_, rfl, _, rfl, c, _, _, _, rfl, rfl, .inl ec4, rfl, szb, fun u hu => ?_⟩
      refine hereD (Same.dat (s3.trans s4) hav) (Same.dat s4 d1) hu (by omega) fun lc H5 s5 dl => ?_
      have ec5 := Same.rd s5 ec4
      have s35 := s4.trans s5
      have s05 := s3.trans s35
      refine ⟨_, rfl, c, _, _, _, rfl, rfl, .inl ec5, rfl, rfl, _, rfl, ?_⟩
      refine ite2 (fun z => absurd z (no_eq (by decide))) (fun _ => ?_)
      refine ⟨_, rfl, c, _, _, _, rfl, rfl, .inl ec5, rfl, rfl, _, rfl, ?_⟩
      refine ite2 (fun z => absurd z (no_eq (by decide))) (fun _ => ?_)
      have eA5 := Same.rd s35 eA
      have dhd5 := Same.dats s35 dhd
      have dpv5 := Same.dat s05 hpv
      -- hands
      refine ⟨_, rfl, c, _, _, _, rfl, rfl, .inl ec5, rfl, hda, rfl, ⟨_, .inl (Same.rd s35 ehd)⟩, fun A2 hA2 => ?_⟩
      refine lc_tup (K := K) (xs := hxs) (fun j H6 => Kp [] H5 H6 ∧ ∃ ys, H6 A2 = some (.lst ys) ∧ Dats H6 ys ((hands.take j).map (R.ins p))) ⟨.new hA2, [], upd_same, by simp; exact .nil⟩ (fun j H6 _ g => .inl (g.1.tup _ _ (Same.rd s35 ehd))) (fun j y H6 hy g => ?_) fun H6 g => ?_
      · obtain ⟨k6, ys, e6, d6⟩ := g
        obtain ⟨hd, hh, e2⟩ := dhd5.at hy
        obtain ⟨ev, rank, lastb, ch, rfl, _⟩ := hh1.1 hd (List.mem_of_getElem? hh)
        have hj := (List.getElem?_eq_some_iff.mp hh).1
        obtain ⟨c2, z0, z1, z2, z3, rfl, ec2, f0, f1, f2, f3⟩ := (k6.dat e2).four
        refine ⟨rfl, ?_⟩
        refine ⟨_, rfl, _, rfl, slD ec2 fun c3 H7 s7 ec3 => ?_⟩
        refine ⟨_, rfl, szb, fun u2 hu2 => ?_⟩
        refine catD (Same.rd (same_new hu2 _) ec3) (.inl upd_same) (by show 3 + 1 ≤ sizeLine; decide) fun c4 H8 s8 ec4' => ?_
        have s78 := (same_new hu2 (.tup [pq])).trans s8
        have s68 := s7.trans s78
        refine ⟨_, rfl, _, rfl, ?_⟩
        unfold tNoPart
        refine slD (Same.rd s68 ec2) fun c5 H9 s9 ec5' => ?_
        refine catD (Same.rd s9 ec4') ec5' (by show 4 + 1 ≤ sizeLine; decide) fun c6 H10 s10 ec6 => ?_
        have s6x := s68.trans (s9.trans s10)
        have e10 := s6x _ _ e6
        refine ⟨ys, e10, ?_, (k6.trans (.same s6x)).putN hA2, _, upd_same, ?_⟩
        · rw [d6.len, List.length_map, List.length_take]
          exact small1000 (by omega)
        · rw [List.take_succ, hh, List.map_append]
          have dn : Dat H10 (.ref c6) (R.ins p (.tup [.str ev, .int rank, .bl lastb, .tup ch])) := .tup ec6 (.cons (Same.dat s6x f0) (.cons (Same.dat s6x f1) (.cons (Same.dat s6x f2) (.cons (Same.dat s6x (k6.dat dpv5)) (.cons (Same.dat s6x f3) .nil)))))
          exact ((Same.dats s6x d6).snoc dn).lst e10 _
      obtain ⟨k6, ys, e6, d6⟩ := g
      have hhl : hands.take hxs.length = hands := List.take_of_length_le (by rw [dhd.len]; omega)
      rw [hhl] at d6
      refine ⟨A2, ys, rfl, .inl ⟨.of e6, fun hn hhn => ?_⟩⟩
      have s7 := k6.toSame.trans (same_new hhn (.tup ys))
      have dhn : Dat (upd H6 hn (.tup ys)) (.ref hn) (.tup (hands.map (R.ins p))) := .made hhn d6
      generalize upd H6 hn (.tup ys) = H7 at *
      have ec7 := Same.rd s7 ec5
      have s37 := s35.trans s7
      have s07 := s3.trans s37
      refine ⟨_, rfl, _, rfl, _, rfl, c, _, _, _, rfl, rfl, .inl ec7, rfl, _, rfl, szb, fun u3 hu3 => ?_⟩
      have s8 := same_new hu3 (.tup [])
      have du3 : Dat (upd H7 u3 (.tup [])) (.ref u3) (pathD []) := .made hu3 .nil
      generalize upd H7 u3 (.tup []) = H8 at *
      have s38 := s37.trans s8
      have s08 := s3.trans s38
      refine ⟨ea, pq, y5, .ref hc, .ref u3, row, p, b ++ [sp], [], kvs, rfl, by omega, hw1, by omega, by rw [List.length_append, List.length_singleton]; omega, by show 0 + row.dep ≤ 400; omega, nd.kp (ms := []) (.same s08) (by simp), fun q r' m => has.same s08 q r' (hsub _ (by simp only [R.subs]; exact List.mem_append_left _ m)), Same.dat s08 hpv, Same.dat s38 d5, Same.dat (s5.trans (s7.trans s8)) dh, du3, fun v H9 dv s9 => ?_⟩
      have s39 := s38.trans s9
      have ec9 := Same.rd (s8.trans s9) ec7
      refine ⟨_, rfl, _, rfl, _, rfl, c, _, _, _, rfl, rfl, .inl ec9, rfl, _, rfl, c, _, _, _, rfl, rfl, .inl ec9, rfl, _, rfl, _, rfl, szb, fun u4 hu4 => ⟨szb, fun u5 hu5 => ⟨szb, fun u6 hu6 => ?_⟩⟩⟩
      have t4 := same_new hu4 (.tup [y2, y3, .ref hn, v])
      have t5 := same_new hu5 (.tup [.ref lc, .ref u4])
      have t6 := same_new hu6 (.tup [.ref u5])
      have d10 : Dat (upd (upd H9 u4 (.tup [y2, y3, .ref hn, v])) u5 (.tup [.ref lc, .ref u4])) (.ref u5) (.tup [pathD (a ++ [sp]), .tup [.str tag, .tup sets, .tup (hands.map (R.ins p)), .tup (row.bx p (b ++ [sp]) [])]]) :=
        .made hu5 (.cons (Same.dat (s7.trans (s8.trans (s9.trans t4))) dl) (.cons (.made hu4 (.cons (Same.dat s39 d2) (.cons (Same.dat s39 d3) (.cons (Same.dat (s8.trans s9) dhn) (.cons dv .nil))))) .nil))
      have d11 := Same.dat t6 d10
      have e11 : Rd (upd (upd (upd H9 u4 (.tup [y2, y3, .ref hn, v])) u5 (.tup [.ref lc, .ref u4])) u6 (.tup [.ref u5])) u6 (.tup [.ref u5]) := .inl upd_same
      have s310 := s39.trans (t4.trans (t5.trans t6))
      generalize upd (upd (upd H9 u4 (.tup [y2, y3, .ref hn, v])) u5 (.tup [.ref lc, .ref u4])) u6 (.tup [.ref u5]) = H10 at *
      simp only [R.bx, List.length_cons] at bl
      refine catD (Same.rd s310 eA) e11 (Nat.le_trans (show xs.length + 1 ≤ 100000 by omega) (by decide)) fun A' H11 s11 eA11 => ?_
      refine ⟨A', ⟨_, _, _, _, _, _, rfl⟩, s3.trans (s310.trans s11), next, done ++ [_], _, ⟨hD, hw2, ?_, ?_, fun e m => hsub e ?_, ?_⟩, eA11, (Same.dats (s310.trans s11) dA).snoc (Same.dat s11 d11)⟩
      · simp only [R.dep] at hdp; omega
      · simp only [R.sz] at hsz2; omega
      · simp only [R.subs]; exact List.mem_append_right _ m
      · rw [← hbx]; simp [R.bx]
  · obtain ⟨A, ⟨y6, y7, y8, y9, y10, y11, rfl⟩, s3, rest, done, xs, bs, eA, dA⟩ := hP
    have hend := bs.end (by rw [dra.len]; exact Nat.le_refl _)
    rw [hend] at dA
    exact ⟨_, rfl, q _ _ (.tup eA dA) s3⟩
end
end Vw

set_option maxHeartbeats 4000000
/-! trees -/
namespace Vw
open PySem PySem.Spec PyProof.Rows L2
open C8 (pss_cut tCut)

theorem Tr.dep48 {r : R} (h : Tr 0 r) : r.dep ≤ 48 := h.dep
theorem Tr.sz5 {r : R} (h : Tr 0 r) : r.sz ≤ 54480 := h.sz
section
variable {P : Program} {w : World} {K : PySem.W.Frag} {mg : Str → Option Value} {base : Heap} {f : Addr} {fd : FuncData} {k : Nat}
def spTree : Sp := fun vs H Q _ => ∃ (LA : Addr) (xs : List V) (names : List Str) (r : R), vs = [.ref LA] ∧ H LA = some (.lst xs) ∧ Paired (Ent H names) (r.ents []) xs ∧ Tr 0 r ∧
  ∀ v H', Dat H' v (.tup (r.bx [] [] [])) → Same H H' → Q v H'
/-- the entries of the first i things of a drawing stand in the dict -/
def Ed (H : Hp) (kvs : List (NestedKey × V)) (es : List (List Spot × R)) (i : Nat) : Prop := kvs.length ≤ i ∧ ∀ j q r', j < i → es[j]? = some (q, r') → ∃ v, valV kvs (pathK q) = some v ∧ Dat H v (.tup r'.D)
theorem Ed.push {H H' : Hp} {kvs : List (NestedKey × V)} {es : List (List Spot × R)} {i : Nat} {q : List Spot} {r' : R} {v : V} {ms : List Addr} (h : Ed H kvs es i) (hn : (es.map (·.1)).Nodup) (he : es[i]? = some (q, r')) (k : Kp ms H H') (dv : Dat H' v (.tup r'.D)) : Ed H' (putK kvs (pathK q) v) es (i + 1) := by
  refine ⟨?_, fun j q2 r2 hj e => ?_⟩
  · have := length_putK kvs (pathK q) v
    have := h.1
    omega
  · rw [valV_put]
    by_cases hji : j = i
    · subst hji
      rw [he] at e
      cases e
      rw [if_pos rfl]
      exact ⟨v, rfl, dv⟩
    · have hne : q2 ≠ q := by
        rintro rfl
        have h1 : (es.map (·.1))[j]? = some q2 := by rw [List.getElem?_map, e]; rfl
        have h2 : (es.map (·.1))[i]? = some q2 := by rw [List.getElem?_map, he]; rfl
        obtain ⟨h1, h1'⟩ := List.getElem?_eq_some_iff.mp h1
        obtain ⟨h2, h2'⟩ := List.getElem?_eq_some_iff.mp h2
        exact hji ((List.getElem_inj hn).mp (h1'.trans h2'.symm))
      rw [if_neg fun z => hne (pathK_inj z)]
      obtain ⟨v2, e2, d2⟩ := h.2 j q2 r2 (by omega) e
      exact ⟨v2, e2, k.dat d2⟩
theorem paired_at {α β : Type} {F : α → β → Prop} : ∀ {a : List α} {b : List β} {i : Nat} {x : β}, Paired F a b → b[i]? = some x → ∃ y, a[i]? = some y ∧ F y x
  | _, _, _, _, .nil, e => by simp at e
  | _, _, 0, x, .cons h t, e => by simp at e; subst e; exact ⟨_, rfl, h⟩
  | _, _, i + 1, x, .cons h t, e => by
    obtain ⟨y, h1, h2⟩ := paired_at t (i := i) (by simpa using e)
    exact ⟨y, by simpa using h1, h2⟩
theorem Ed.has {H : Hp} {kvs : List (NestedKey × V)} {r : R} {n : Nat} (h : Ed H kvs (r.ents []) n) (hn : (r.ents []).length ≤ n) : Has H kvs [] r ∧ ∃ v, valV kvs (pathK []) = some v ∧ Dat H v (.tup r.D) := by
  refine ⟨fun q r' m => ?_, ?_⟩
  · have m2 : (q, r') ∈ r.ents [] := List.mem_cons_of_mem _ m
    obtain ⟨j, hj⟩ := List.getElem?_of_mem m2
    have := (List.getElem?_eq_some_iff.mp hj).1
    exact h.2 j q r' (by omega) hj
  · refine h.2 0 [] r ?_ rfl
    have : 0 < (r.ents []).length := by show 0 < (r.subs []).length + 1; omega
    omega
theorem sctree_of : FnScope ["drawing", "entries", "path", "name", "gives", "downs", "piece"] ["drawing"] (defScope (Vh.top 2)) := ⟨rfl, rfl, rfl, by decide +kernel, rfl, by decide +kernel, by decide +kernel⟩
theorem ok_tree_of (F : Fun K "tree_of" "tree_of" (Vh.top 2) f fd) (B : Blt mg) (Cboxes_of : Cl P w K mg base k "boxes_of" (spBx 60 P w)) : FnOk P w K mg base CX0 (k + 1) f fd ["drawing"] spTree := by
  refine F.ok sctree_of (fun vs H Q E h => ?_) (fun cdv A outer s H vs Q E hr h => ?_)
  · obtain ⟨LA, _, _, _, rfl, _⟩ := h
    rfl
  obtain ⟨LA, xs, names, r, rfl, eLA, pE, tr, q⟩ := h
  refine ⟨_, (pss_cons (ps_set (i := 1) sctree_of.nd rfl (Or.inl rfl) pe_nnew)
  (pss_cons (ps_for PassesOwn.never rfl (pi_list (pv 0)) (pg_tup rfl (pgs_cons (pg_name (i := 2) sctree_of.nd rfl (.inl rfl)) (pgs_cons (pg_name (i := 3) sctree_of.nd rfl (.inl rfl)) (pgs_cons (pg_name (i := 4) sctree_of.nd rfl (.inl rfl)) (pgs_cons (pg_name (i := 5) sctree_of.nd rfl (.inl rfl)) (pgs_cons (pg_name (i := 6) sctree_of.nd rfl (.inl rfl)) pgs_nil)))))) (pss_one (ps_nput (hu10 hr) (pv 1) (pv 2) (pe_ix ix_tup (pv 6) pe_int (fun _ _ => rfl)) rfl)))
  (pss_one (ps_ret (pe_cl Cboxes_of hr (by rfl) (pa_cons (pv 1) (pa_cons (pe_tup pa_nil) (pa_cons (pe_nget (hu10 hr) (pv 1) (pe_tup pa_nil) (fun _ _ => rfl)) (pa_cons (pe_tup pa_nil) (pa_cons (pe_tup pa_nil) pa_nil)))))))))), ?_⟩
  have hlen := Paired.length pE
  have hents := tr.ents []
  have hnd := R.ents_nd (b := []) tr.wf
  refine fun ea H1 hea k1 nd1 => ?_
  have nl : LA ≠ ea := ne_of_none eLA hea
  refine ⟨_, rfl, LA, rfl, ⟨_, .of (k1.at1 nl eLA)⟩, ?_⟩
  refine for_list (K := K) (xs := xs) (fun i σ H3 => (∃ y2 y3 y4 y5 y6, σ = [some (.ref LA), some (.ref ea), y2, y3, y4, y5, y6]) ∧ Kp [ea] H H3 ∧ ∃ kvs, ND P w H3 ea kvs ∧ Ed H3 kvs (r.ents []) i)
    ⟨⟨_, _, _, _, _, rfl⟩, k1, [], nd1, Nat.le_refl _, fun j q r' h => absurd h (Nat.not_lt_zero _)⟩ (fun i σ H3 _ hP => .of (hP.2.1.at1 nl eLA)) (fun i x σ H3 hx hP => ?_) fun σ H3 hP => ?_
  · obtain ⟨⟨y2, y3, y4, y5, y6, rfl⟩, k3, kvs, nd3, ed3⟩ := hP
    have hi := (List.getElem?_eq_some_iff.mp hx).1
    obtain ⟨⟨q0, r0⟩, he0, hE⟩ := paired_at pE hx
    obtain ⟨a, pq, nm, gv, dv, pa, rdv, rwv, wkv, rfl, ea1, dpv, hnm, epa, drw⟩ := hE.kp k3
    refine ⟨a, _, rfl, .inl ea1, rfl, _, _, rfl, _, _, rfl, _, _, rfl, _, _, rfl, _, _, rfl, rfl, ?_⟩
    obtain ⟨pb, rfl, nk⟩ := NK.path dpv
    refine ⟨_, rfl, pa, _, _, _, rfl, rfl, .inl epa, rfl, _, rfl, _, rfl, ea, pb, kvs, _, rfl, rfl, nd3, nk, Nat.lt_of_le_of_lt (show kvs.length ≤ 200000 by have := ed3.1; omega) (by decide), fun H4 k4 nd4 => ?_⟩
    exact ⟨⟨_, _, _, _, _, rfl⟩, k3.trans k4, _, nd4, ed3.push hnd he0 k4 (k4.dat drw)⟩
  · obtain ⟨⟨y2, y3, y4, y5, y6, rfl⟩, k3, kvs, nd3, ed3⟩ := hP
    refine ⟨_, rfl, szb, fun u1 hu1 => ?_⟩
    have t1 := same_new hu1 (.tup [])
    refine ⟨_, rfl, szb, fun u2 hu2 => ?_⟩
    have t2 := same_new hu2 (.tup [])
    obtain ⟨has, v, hv, dv⟩ := ed3.has (by omega)
    have du1 : Dat (upd H3 u1 (.tup [])) (.ref u1) (pathD []) := .made hu1 .nil
    have du2 : Dat (upd (upd H3 u1 (.tup [])) u2 (.tup [])) (.ref u2) (pathD []) := .made hu2 .nil
    refine ⟨ea, u2, kvs, _, v, rfl, rfl, nd3.kp (ms := []) (.same (t1.trans t2)) (by simp), NK.of du2, hv, szb, fun u3 hu3 => ⟨szb, fun u4 hu4 => ?_⟩⟩
    have t3 := same_new hu3 (.tup [])
    have t4 := same_new hu4 (.tup [])
    have du3 : Dat (upd (upd (upd H3 u1 (.tup [])) u2 (.tup [])) u3 (.tup [])) (.ref u3) (pathD []) := .made hu3 .nil
    have du4 : Dat (upd (upd (upd (upd H3 u1 (.tup [])) u2 (.tup [])) u3 (.tup [])) u4 (.tup [])) (.ref u4) (pathD []) := .made hu4 .nil
    have tt := t1.trans (t2.trans (t3.trans t4))
    have hdep := tr.dep48
    have hsz := tr.sz5
    refine ⟨ea, .ref u1, v, .ref u3, .ref u4, r, [], [], [], kvs, rfl, by omega, tr.wf, by omega, by show 0 + r.dep ≤ 400; omega, by show 0 + r.dep ≤ 400; omega, nd3.kp (ms := []) (.same tt) (by simp), has.same tt, Same.dat (t2.trans (t3.trans t4)) du1, Same.dat tt dv, Same.dat t4 du3, du4, fun v' H5 dv' s5 => ?_⟩
    refine q v' H5 dv' ?_
    exact (k3.trans (.same (tt.trans s5))).nil fun b hb => by rw [List.mem_singleton.mp hb]; exact hea
theorem sc_law_tree : FnScope ["_law_drawing", "_law_entries", "_law_entry"] ["_law_drawing"] (defScope (Vh.top 37)) := ⟨rfl, rfl, rfl, by decide +kernel, rfl, by decide +kernel, by decide +kernel⟩
theorem ok_ltree (F : Fun K "_law_tree" "_law_tree" (Vh.top 37) f fd) (B : Blt mg) (C_law_boxes_of : Cl P w K mg base k "_law_boxes_of" (spBx 60 P w)) : FnOk P w K mg base CX0 (k + 1) f fd ["_law_drawing"] spTree := by
  refine F.ok sc_law_tree (fun vs H Q E h => ?_) (fun cdv A outer s H vs Q E hr h => ?_)
  · obtain ⟨LA, _, _, _, rfl, _⟩ := h
    rfl
  obtain ⟨LA, xs, names, r, rfl, eLA, pE, tr, q⟩ := h
  refine ⟨_, (pss_cons (ps_set (i := 1) sc_law_tree.nd rfl (Or.inl rfl) pe_nnew)
  (pss_cons (ps_for PassesOwn.never rfl (pi_list (pv 0)) (pg_name (i := 2) sc_law_tree.nd rfl (.inl rfl)) (pss_one (ps_nput (hu10 hr) (pv 1) (pe_ix ix_tup (pv 2) pe_int (fun _ _ => rfl)) (pe_ix ix_tup (pe_ix ix_tup (pv 2) pe_int (fun _ _ => rfl)) pe_int (fun _ _ => rfl)) rfl)))
  (pss_one (ps_ret (pe_cl C_law_boxes_of hr (by rfl) (pa_cons (pv 1) (pa_cons (pe_tup pa_nil) (pa_cons (pe_nget (hu10 hr) (pv 1) (pe_tup pa_nil) (fun _ _ => rfl)) (pa_cons (pe_tup pa_nil) (pa_cons (pe_tup pa_nil) pa_nil)))))))))), ?_⟩
  have hlen := Paired.length pE
  have hents := tr.ents []
  have hnd := R.ents_nd (b := []) tr.wf
  refine fun ea H1 hea k1 nd1 => ?_
  have nl : LA ≠ ea := ne_of_none eLA hea
  refine ⟨_, rfl, LA, rfl, ⟨_, .of (k1.at1 nl eLA)⟩, ?_⟩
  refine for_list (K := K) (xs := xs) (fun i σ H3 => (∃ y2, σ = [some (.ref LA), some (.ref ea), y2]) ∧ Kp [ea] H H3 ∧ ∃ kvs, ND P w H3 ea kvs ∧ Ed H3 kvs (r.ents []) i)
    ⟨⟨_, rfl⟩, k1, [], nd1, Nat.le_refl _, fun j q r' h => absurd h (Nat.not_lt_zero _)⟩ (fun i σ H3 _ hP => .of (hP.2.1.at1 nl eLA)) (fun i x σ H3 hx hP => ?_) fun σ H3 hP => ?_
  · obtain ⟨⟨y2, rfl⟩, k3, kvs, nd3, ed3⟩ := hP
    have hi := (List.getElem?_eq_some_iff.mp hx).1
    obtain ⟨⟨q0, r0⟩, he0, hE⟩ := paired_at pE hx
    obtain ⟨a, pq, nm, gv, dv, pa, rdv, rwv, wkv, rfl, ea1, dpv, hnm, epa, drw⟩ := hE.kp k3
    obtain ⟨pb, rfl, nk⟩ := NK.path dpv
    refine ⟨_, rfl, a, _, _, _, rfl, rfl, .inl ea1, rfl, pa, _, _, _, rfl, rfl, .inl epa, rfl, _, rfl, _, rfl, a, _, _, _, rfl, rfl, .inl ea1, rfl, ea, pb, kvs, _, rfl, rfl, nd3, nk, Nat.lt_of_le_of_lt (show kvs.length ≤ 200000 by have := ed3.1; omega) (by decide), fun H4 k4 nd4 => ?_⟩
    exact ⟨⟨_, rfl⟩, k3.trans k4, _, nd4, ed3.push hnd he0 k4 (k4.dat drw)⟩
  · obtain ⟨⟨y2, rfl⟩, k3, kvs, nd3, ed3⟩ := hP
    refine ⟨_, rfl, szb, fun u1 hu1 => ?_⟩
    have t1 := same_new hu1 (.tup [])
    refine ⟨_, rfl, szb, fun u2 hu2 => ?_⟩
    have t2 := same_new hu2 (.tup [])
    obtain ⟨has, v, hv, dv⟩ := ed3.has (by omega)
    have du1 : Dat (upd H3 u1 (.tup [])) (.ref u1) (pathD []) := .made hu1 .nil
    have du2 : Dat (upd (upd H3 u1 (.tup [])) u2 (.tup [])) (.ref u2) (pathD []) := .made hu2 .nil
    refine ⟨ea, u2, kvs, _, v, rfl, rfl, nd3.kp (ms := []) (.same (t1.trans t2)) (by simp), NK.of du2, hv, szb, fun u3 hu3 => ⟨szb, fun u4 hu4 => ?_⟩⟩
    have t3 := same_new hu3 (.tup [])
    have t4 := same_new hu4 (.tup [])
    have du3 : Dat (upd (upd (upd H3 u1 (.tup [])) u2 (.tup [])) u3 (.tup [])) (.ref u3) (pathD []) := .made hu3 .nil
    have du4 : Dat (upd (upd (upd (upd H3 u1 (.tup [])) u2 (.tup [])) u3 (.tup [])) u4 (.tup [])) (.ref u4) (pathD []) := .made hu4 .nil
    have tt := t1.trans (t2.trans (t3.trans t4))
    have hdep := tr.dep48
    have hsz := tr.sz5
    refine ⟨ea, .ref u1, v, .ref u3, .ref u4, r, [], [], [], kvs, rfl, by omega, tr.wf, by omega, by show 0 + r.dep ≤ 400; omega, by show 0 + r.dep ≤ 400; omega, nd3.kp (ms := []) (.same tt) (by simp), has.same tt, Same.dat (t2.trans (t3.trans t4)) du1, Same.dat tt dv, Same.dat t4 du3, du4, fun v' H5 dv' s5 => ?_⟩
    refine q v' H5 dv' ?_
    exact (k3.trans (.same (tt.trans s5))).nil fun b hb => by rw [List.mem_singleton.mp hb]; exact hea
end
end Vw

set_option maxHeartbeats 4000000
/-! kinds -/
namespace Vw
open PySem PySem.Spec PyProof.Rows L2
open C8 (pss_cut tCut)

def tyD : D → String
  | .non => "NoneType"
  | .bl _ => "bool"
  | .int _ => "int"
  | .str _ => "str"
  | .tup _ => "tuple"
def kindD : D → Str
  | .non => "none"
  | .bl _ => "truth"
  | .int _ => "number"
  | .str _ => "text"
  | .tup _ => "tuple"
theorem kit_bool_bool : kitB "bool" "bool" = some true := by decide +kernel
theorem kit_int_bool : kitB "int" "bool" = some false := by decide +kernel
theorem kit_int_int : kitB "int" "int" = some true := by decide +kernel
theorem kit_int_str : kitB "int" "str" = some false := by decide +kernel
theorem kit_int_tuple : kitB "int" "tuple" = some false := by decide +kernel
theorem kit_int_list : kitB "int" "list" = some false := by decide +kernel
theorem kit_str_bool : kitB "str" "bool" = some false := by decide +kernel
theorem kit_str_int : kitB "str" "int" = some false := by decide +kernel
theorem kit_str_str : kitB "str" "str" = some true := by decide +kernel
theorem kit_str_tuple : kitB "str" "tuple" = some false := by decide +kernel
theorem kit_str_list : kitB "str" "list" = some false := by decide +kernel
theorem kit_tuple_bool : kitB "tuple" "bool" = some false := by decide +kernel
theorem kit_tuple_int : kitB "tuple" "int" = some false := by decide +kernel
theorem kit_tuple_str : kitB "tuple" "str" = some false := by decide +kernel
theorem kit_tuple_tuple : kitB "tuple" "tuple" = some true := by decide +kernel
theorem kit_tuple_list : kitB "tuple" "list" = some false := by decide +kernel
def isBl : D → Bool
  | .bl _ => true
  | _ => false
theorem Dat.ty {K : PySem.W.Frag} {H : Hp} {v : V} {d : D} (h : Dat H v d) : TyX K H v (.type (tyD d)) := by
  cases h with
  | non => exact .base .non
  | bl => exact .base (.bl _)
  | int => exact .base (.int _)
  | str => exact .base (.str _)
  | tup e _ =>
    rcases e with e | ⟨o, e⟩
    · exact .base (.tup e)
    · exact .fTuple e
section
variable {P : Program} {w : World} {K : PySem.W.Frag} {mg : Str → Option Value} {base : Heap} {f : Addr} {fd : FuncData} {k : Nat}
def spKind : Sp := fun vs H Q _ => ∃ (v : V) (d : D), vs = [v] ∧ Dat H v d ∧ ∀ H', Same H H' → Q (.str (kindD d)) H'
theorem sc_law_kind : FnScope ["_law_thing_here", "_law_kinds", "_law_names_here", "_law_k"] ["_law_thing_here"] (defScope (Vh.top 34)) := ⟨rfl, rfl, rfl, by decide +kernel, rfl, by decide +kernel, by decide +kernel⟩
theorem ok_kind (F : Fun K "_law_kind" "_law_kind" (Vh.top 34) f fd) (B : Blt mg) : FnOk P w K mg base CX0 (k + 1) f fd ["_law_thing_here"] spKind := by
  refine F.ok sc_law_kind (fun vs H Q E h => ?_) (fun cdv A outer s H vs Q E hr h => ?_)
  · obtain ⟨v, _, rfl, _⟩ := h
    rfl
  obtain ⟨v, d, rfl, hd, q⟩ := h
  refine ⟨_, (pss_cons (ps_if (pt_cmpR op_isN (pv 0) pe_non (nomark _)) (pss_one (ps_ret pe_str)) pss_nil)
  (pss_cons (ps_if (pt_val (pe_callB call_isi (by rfl) B.isinstance_ (by decide +kernel) (pa_cons (pv 0) (pa_cons (pe_bltn (v := .ty "bool") (by rfl) B.bool_ (by decide +kernel) rfl) pa_nil)))) (pss_one (ps_ret pe_str)) pss_nil)
  (pss_cons (ps_set (i := 1) sc_law_kind.nd rfl (Or.inr rfl) (pe_lst (pa_cons (pe_callB call_isi (by rfl) B.isinstance_ (by decide +kernel) (pa_cons (pv 0) (pa_cons (pe_bltn (v := .ty "int") (by rfl) B.int_ (by decide +kernel) rfl) pa_nil))) (pa_cons (pe_callB call_isi (by rfl) B.isinstance_ (by decide +kernel) (pa_cons (pv 0) (pa_cons (pe_bltn (v := .ty "str") (by rfl) B.str_ (by decide +kernel) rfl) pa_nil))) (pa_cons (pe_callB call_isi (by rfl) B.isinstance_ (by decide +kernel) (pa_cons (pv 0) (pa_cons (pe_bltn (v := .ty "tuple") (by rfl) B.tuple_ (by decide +kernel) rfl) pa_nil))) (pa_cons (pe_callB call_isi (by rfl) B.isinstance_ (by decide +kernel) (pa_cons (pv 0) (pa_cons (pe_bltn (v := .ty "list") (by rfl) B.list_ (by decide +kernel) rfl) pa_nil))) pa_nil))))))
  (pss_cons (ps_set (i := 2) sc_law_kind.nd rfl (Or.inr rfl) (pe_lst (pa_cons pe_str (pa_cons pe_str (pa_cons pe_str (pa_cons pe_str pa_nil))))))
  (pss_one (ps_ret (pe_ix ix_list (pe_op op_cat (pe_lc (own := [("_law_k", 3)]) (g := (gName 3)) (by rfl) sc_law_kind.nd (pi_range1 (by rfl) B.range_ (pa_cons pe_int pa_nil)) (blkOk_by (own := [("_law_k", 3)]) (N := ["_law_thing_here", "_law_kinds", "_law_names_here", "_law_k"]) (sc := defScope (Vh.top 34)) (by decide +kernel)) (fun _ _ _ _ _ => (pg_name (i := 3) sc_law_kind.nd rfl (.inl rfl))) (fun _ _ _ _ _ => (pts_one (pt_val (pe_ix (ix_listK (K := K)) (pv 1) (pv 3) (fun _ _ => rfl))))) (fun _ _ _ _ _ => (pe_ix (ix_listK (K := K)) (pv 2) (pv 3) (fun _ _ => rfl)))) (pe_lst (pa_cons pe_str pa_nil))) pe_int (fun _ _ => rfl)))))))), ?_⟩
  refine ⟨_, rfl, rfl, _, rfl, ?_⟩
  refine ite2 (fun z => ?_) (fun z => ?_)
  · have e : v = .non := of_decide_eq_true z
    subst e
    cases hd
    exact q H (.refl H)
  have nn : d ≠ .non := by
    rintro rfl
    exact z (by rw [hd.non_inv]; rfl)
  obtain ⟨b, hb, hbd⟩ : ∃ b, PySem.W.kitOne K (.type (tyD d)) (.type "bool") = some b ∧ b = isBl d := by
    cases d with
    | non => exact absurd rfl nn
    | bl c => exact ⟨true, kit_ty kit_bool_bool, rfl⟩
    | int i => exact ⟨false, kit_ty kit_int_bool, rfl⟩
    | str x => exact ⟨false, kit_ty kit_str_bool, rfl⟩
    | tup ds => exact ⟨false, kit_ty kit_tuple_bool, rfl⟩
  refine ⟨_, rfl, v, .ty "bool", _, _, b, rfl, .ty _, hd.ty, hb, _, rfl, ?_⟩
  refine ite2 (fun z => ?_) (fun z => ?_)
  · rw [hbd] at z
    cases d with
    | bl c => exact q H (.refl H)
    | _ => cases z
  have nb : ∀ c, d ≠ .bl c := fun c e => z (by rw [hbd, e]; rfl)
  obtain ⟨j, hj, b0, b1, b2, b3, h0, h1, h2, h3, hbs, hk⟩ : ∃ j, j < 3 ∧ ∃ b0 b1 b2 b3, PySem.W.kitOne K (.type (tyD d)) (.type "int") = some b0 ∧ PySem.W.kitOne K (.type (tyD d)) (.type "str") = some b1 ∧ PySem.W.kitOne K (.type (tyD d)) (.type "tuple") = some b2 ∧ PySem.W.kitOne K (.type (tyD d)) (.type "list") = some b3 ∧
      (∀ i : Nat, i < 4 → atI [V.bl b0, .bl b1, .bl b2, .bl b3] (0 + (i : Int)) = some (.bl (decide (i = j)))) ∧ atI [V.str "number", .str "text", .str "tuple", .str "list"] (0 + (j : Int)) = some (.str (kindD d)) := by
    cases d with
    | non => exact absurd rfl nn
    | bl c => exact absurd rfl (nb c)
    | int i => exact ⟨0, by decide, true, false, false, false, kit_ty kit_int_int, kit_ty kit_int_str, kit_ty kit_int_tuple, kit_ty kit_int_list, by intro i hi; rcases (show i = 0 ∨ i = 1 ∨ i = 2 ∨ i = 3 by omega) with rfl | rfl | rfl | rfl <;> rfl, rfl⟩
    | str x => exact ⟨1, by decide, false, true, false, false, kit_ty kit_str_int, kit_ty kit_str_str, kit_ty kit_str_tuple, kit_ty kit_str_list, by intro i hi; rcases (show i = 0 ∨ i = 1 ∨ i = 2 ∨ i = 3 by omega) with rfl | rfl | rfl | rfl <;> rfl, rfl⟩
    | tup ds => exact ⟨2, by decide, false, false, true, false, kit_ty kit_tuple_int, kit_ty kit_tuple_str, kit_ty kit_tuple_tuple, kit_ty kit_tuple_list, by intro i hi; rcases (show i = 0 ∨ i = 1 ∨ i = 2 ∨ i = 3 by omega) with rfl | rfl | rfl | rfl <;> rfl, rfl⟩
  refine ⟨_, rfl, v, .ty "int", _, _, b0, rfl, .ty _, hd.ty, h0, _, rfl, v, .ty "str", _, _, b1, rfl, .ty _, hd.ty, h1, _, rfl, v, .ty "tuple", _, _, b2, rfl, .ty _, hd.ty, h2, _, rfl, v, .ty "list", _, _, b3, rfl, .ty _, hd.ty, h3, szb, fun l1 hl1 => ?_⟩
  refine ⟨szb, fun l2 hl2 => ?_⟩
  have s1 := same_new hl1 (.lst [V.bl b0, .bl b1, .bl b2, .bl b3])
  have s2 := same_new hl2 (.lst [V.str "number", .str "text", .str "tuple", .str "list"])
  have s12 := s1.trans s2
  have e1 : (upd (upd H l1 (.lst [V.bl b0, .bl b1, .bl b2, .bl b3])) l2 (.lst [V.str "number", .str "text", .str "tuple", .str "list"])) l1 = some (.lst [V.bl b0, .bl b1, .bl b2, .bl b3]) := s2 _ _ upd_same
  have e2 : (upd (upd H l1 (.lst [V.bl b0, .bl b1, .bl b2, .bl b3])) l2 (.lst [V.str "number", .str "text", .str "tuple", .str "list"])) l2 = some (.lst [V.str "number", .str "text", .str "tuple", .str "list"]) := upd_same
  generalize upd (upd H l1 (.lst [V.bl b0, .bl b1, .bl b2, .bl b3])) l2 (.lst [V.str "number", .str "text", .str "tuple", .str "list"]) = H2 at *
  refine ⟨4, rfl, by decide, by decide, fun A hA => ?_⟩
  refine lc_range (lo := 0) (n := (4 : Int).toNat) (fun i H3 => Kp [] H2 H3 ∧ H3 A = some (.lst (if i ≤ j then [] else [.str (kindD d)]))) ⟨.new hA, by rw [if_pos (Nat.zero_le _)]; exact upd_same⟩ (fun i H3 hi g => ?_) fun H3 g => ?_
  · obtain ⟨k3, e3⟩ := g
    refine ⟨rfl, ?_⟩
    refine ⟨_, rfl, _, rfl, l1, _, _, _, rfl, rfl, .of (k3.toSame _ _ e1), hbs i hi, _, rfl, ?_⟩
    refine ite2 (fun z => ?_) (fun z => ?_)
    · have hij : i = j := of_decide_eq_true z
      subst hij
      rw [if_pos (Nat.le_refl _)] at e3
      refine ⟨_, rfl, _, rfl, l2, _, _, _, rfl, rfl, .of (k3.toSame _ _ e2), hk, _, e3, by show 0 < sizeLine; decide, k3.putN hA, ?_⟩
      rw [if_neg (by omega), upd_same]
      rfl
    · have hij : i ≠ j := fun e => z (decide_eq_true e)
      refine ⟨k3, ?_⟩
      rw [e3]
      by_cases h : i ≤ j
      · rw [if_pos h, if_pos (by omega)]
      · rw [if_neg h, if_neg (by omega)]
  · obtain ⟨k3, e3⟩ := g
    rw [if_neg (by show ¬ 4 ≤ j; omega)] at e3
    refine ⟨szb, fun l3 hl3 => ?_⟩
    refine ⟨A, l3, _, _, rfl, rfl, same_new hl3 _ _ _ e3, upd_same, szb, fun l4 hl4 => ?_⟩
    refine ⟨l4, _, _, _, rfl, rfl, .of upd_same, rfl, q _ ?_⟩
    exact s12.trans (k3.toSame.trans ((same_new hl3 _).trans (same_new hl4 _)))

theorem kind_nt {d : D} (h : ∀ ds, d ≠ .tup ds) : kindD d ≠ "tuple" ∧ kindD d ≠ "list" := by
  cases d with
  | non => exact ⟨show ("none" : Str) ≠ "tuple" by decide, show ("none" : Str) ≠ "list" by decide⟩
  | bl b => exact ⟨show ("truth" : Str) ≠ "tuple" by decide, show ("truth" : Str) ≠ "list" by decide⟩
  | int i => exact ⟨show ("number" : Str) ≠ "tuple" by decide, show ("number" : Str) ≠ "list" by decide⟩
  | str x => exact ⟨show ("text" : Str) ≠ "tuple" by decide, show ("text" : Str) ≠ "list" by decide⟩
  | tup ds => exact absurd rfl (h ds)
/-- data no deeper than n -/
inductive Dp : Nat → D → Prop
  | non {n} : Dp n .non
  | bl {n b} : Dp n (.bl b)
  | int {n i} : Dp n (.int i)
  | str {n x} : Dp n (.str x)
  | tup {n ds} : (∀ d ∈ ds, Dp n d) → ds.length ≤ 100000 → Dp (n + 1) (.tup ds)
theorem Dp.up {n : Nat} {d : D} (h : Dp n d) : ∀ {m : Nat}, n ≤ m → Dp m d := by
  induction h with
  | non => intro m _; exact .non
  | bl => intro m _; exact .bl
  | int => intro m _; exact .int
  | str => intro m _; exact .str
  | tup _ hl ih =>
    intro m hm
    obtain ⟨m, rfl⟩ : ∃ m', m = m' + 1 := ⟨m - 1, by omega⟩
    exact .tup (fun d md => ih d md (by omega)) hl
def spAlike (n : Nat) : Sp := fun vs H Q _ => ∃ (v u : V) (d : D) (m : Nat), vs = [v, u] ∧ m < n ∧ Dp m d ∧ Dat H v d ∧ Dat H u d ∧ ∀ H', Same H H' → Q (.bl true) H'
theorem sc_law_alike : FnScope ["_law_one", "_law_other", "_law_kind_here", "_law_k"] ["_law_one", "_law_other"] (defScope (Vh.top 35)) := ⟨rfl, rfl, rfl, by decide +kernel, rfl, by decide +kernel, by decide +kernel⟩
theorem ok_alike {n : Nat} (F : Fun K "_law_alike" "_law_alike" (Vh.top 35) f fd) (B : Blt mg) (C_law_kind : Cl P w K mg base k "_law_kind" spKind) (C_law_alike : Cl P w K mg base k "_law_alike" (spAlike n)) : FnOk P w K mg base CX0 (k + 1) f fd ["_law_one", "_law_other"] (spAlike (n + 1)) := by
  refine F.ok sc_law_alike (fun vs H Q E h => ?_) (fun cdv A outer s H vs Q E hr h => ?_)
  · obtain ⟨v, u, _, _, rfl, _⟩ := h
    rfl
  obtain ⟨v, u, d, m, rfl, hm, hdp, hv, hu, q⟩ := h
  refine ⟨_, (pss_cons (ps_set (i := 2) sc_law_alike.nd rfl (Or.inl rfl) (pe_cl C_law_kind hr (by rfl) (pa_cons (pv 0) pa_nil)))
  (pss_cons (ps_if (pt_cmpR op_ne (pv 2) (pe_cl C_law_kind hr (by rfl) (pa_cons (pv 1) pa_nil)) (nomark _)) (pss_one (ps_ret pe_bl)) pss_nil)
  (pss_cut (ps_if (PW.pt (pw_or (pt_cmpR op_eq (pv 2) pe_str (nomark _)) (pw_or1 (pt_cmpR op_eq (pv 2) pe_str (nomark _))))) (pss_one (ps_ret (pe_and (pe_cmpR op_eq (pe_callB call_len_seq (by rfl) B.len_ (by decide +kernel) (pa_cons (pv 0) pa_nil)) (pe_callB call_len_seq (by rfl) B.len_ (by decide +kernel) (pa_cons (pv 1) pa_nil)) (nomark _)) (pe_one (pe_callB (cr_all rfl) (by rfl) B.all_ (by decide +kernel) (pa_cons (pe_lc (own := [("_law_k", 3)]) (g := (gName 3)) (by rfl) sc_law_alike.nd (pi_range1 (by rfl) B.range_ (pa_cons (pe_callB call_len_seq (by rfl) B.len_ (by decide +kernel) (pa_cons (pv 0) pa_nil)) pa_nil)) (blkOk_by (own := [("_law_k", 3)]) (N := ["_law_one", "_law_other", "_law_kind_here", "_law_k"]) (sc := defScope (Vh.top 35)) (by decide +kernel)) (fun _ _ _ _ _ => (pg_name (i := 3) sc_law_alike.nd rfl (.inl rfl))) (fun _ _ _ _ _ => pts_nil) (fun _ _ _ _ _ => (pe_cl C_law_alike hr (by rfl) (pa_cons (pe_ix (ix_tupK (K := K)) (pv 0) (pv 3) (fun _ _ => rfl)) (pa_cons (pe_ix (ix_tupK (K := K)) (pv 1) (pv 3) (fun _ _ => rfl)) pa_nil))))) pa_nil)))))) pss_nil)
  (pss_one (ps_ret (pe_cmpR op_eq (pv 0) (pv 1) (nomark _))))))), ?_⟩
  refine ⟨_, rfl, v, d, rfl, hv, fun H1 s1 => ?_⟩
  refine ⟨_, rfl, _, rfl, u, d, rfl, Same.dat s1 hu, fun H2 s2 => ?_⟩
  refine ⟨rfl, _, rfl, ?_⟩
  refine ite2 (fun z => absurd z (by simp)) (fun _ => ?_)
  have s12 := s1.trans s2
  have hv2 := Same.dat s12 hv
  have hu2 := Same.dat s12 hu
  have scalar : (∀ ds, d ≠ .tup ds) → scal v u = true ∧ decide (v = u) = true := fun hn => by
    cases d with
    | non => rw [hv2.non_inv, hu2.non_inv]; exact ⟨rfl, by simp⟩
    | bl c => rw [hv2.bl_inv, hu2.bl_inv]; exact ⟨rfl, by simp⟩
    | int i => rw [hv2.int_inv, hu2.int_inv]; exact ⟨rfl, by simp⟩
    | str x => rw [hv2.str_inv, hu2.str_inv]; exact ⟨rfl, by simp⟩
    | tup ds => exact absurd rfl (hn ds)
  refine ⟨fun σ' H' => (∀ ds, d ≠ .tup ds) ∧ σ' = [some v, some u, some (.str (kindD d)), none] ∧ H2 = H', ?_, ?_⟩
  · cases hdp with
    | non =>
      refine ⟨_, rfl, rfl, _, rfl, ?_⟩
      refine ite2 (fun z => absurd z (no_eq (kind_nt fun ds z => by cases z).1)) (fun _ => ?_)
      refine ⟨_, rfl, rfl, _, rfl, ?_⟩
      exact ite2 (fun z => absurd z (no_eq (kind_nt fun ds z => by cases z).2)) (fun _ => ⟨(fun ds z => nomatch z), rfl, rfl⟩)
    | bl =>
      refine ⟨_, rfl, rfl, _, rfl, ?_⟩
      refine ite2 (fun z => absurd z (no_eq (kind_nt fun ds z => by cases z).1)) (fun _ => ?_)
      refine ⟨_, rfl, rfl, _, rfl, ?_⟩
      exact ite2 (fun z => absurd z (no_eq (kind_nt fun ds z => by cases z).2)) (fun _ => ⟨(fun ds z => nomatch z), rfl, rfl⟩)
    | int =>
      refine ⟨_, rfl, rfl, _, rfl, ?_⟩
      refine ite2 (fun z => absurd z (no_eq (kind_nt fun ds z => by cases z).1)) (fun _ => ?_)
      refine ⟨_, rfl, rfl, _, rfl, ?_⟩
      exact ite2 (fun z => absurd z (no_eq (kind_nt fun ds z => by cases z).2)) (fun _ => ⟨(fun ds z => nomatch z), rfl, rfl⟩)
    | str =>
      refine ⟨_, rfl, rfl, _, rfl, ?_⟩
      refine ite2 (fun z => absurd z (no_eq (kind_nt fun ds z => by cases z).1)) (fun _ => ?_)
      refine ⟨_, rfl, rfl, _, rfl, ?_⟩
      exact ite2 (fun z => absurd z (no_eq (kind_nt fun ds z => by cases z).2)) (fun _ => ⟨(fun ds z => nomatch z), rfl, rfl⟩)
    | @tup m ds hds hdl =>
      obtain ⟨a, xs, rfl, ea, da⟩ := hv2.tup_inv
      obtain ⟨b, ys, rfl, eb, db⟩ := hu2.tup_inv
      have lx := da.len
      have ly := db.len
      refine ⟨_, rfl, rfl, _, rfl, ?_⟩
      refine ite2 (fun _ => ?_) (fun z => absurd (show decide (V.str "tuple" = V.str "tuple") = true by decide) z)
      refine ⟨_, rfl, a, _, rfl, .inr (.inl ea), _, rfl, b, _, rfl, .inr (.inl eb), rfl, _, rfl, ?_⟩
      refine ite2 (fun _ => ?_) (fun z => absurd (decide_eq_true (show V.int (xs.length : Nat) = V.int (ys.length : Nat) by rw [lx, ly])) z)
      refine ⟨_, rfl, a, _, rfl, .inr (.inl ea), ((xs.length : Nat) : Int), rfl, by omega, by omega, fun A hA => ?_⟩
      refine lc_range (lo := 0) (n := ((xs.length : Nat) : Int).toNat) (fun i H3 => Kp [] H2 H3 ∧ H3 A = some (.lst ((List.replicate i true).map V.bl))) ⟨.new hA, upd_same⟩ (fun i H3 hi g => ?_) fun H3 g => ?_
      · obtain ⟨k3, e3⟩ := g
        have hix : i < xs.length := by omega
        have hiy : i < ys.length := by omega
        refine ⟨rfl, ?_⟩
        have ax : atI xs (0 + (i : Int)) = some xs[i] := atI_of (by omega) (by rw [show (0 + (i : Int)).toNat = i by omega]; exact List.getElem?_eq_getElem hix)
        have ay : atI ys (0 + (i : Int)) = some ys[i] := atI_of (by omega) (by rw [show (0 + (i : Int)).toNat = i by omega]; exact List.getElem?_eq_getElem hiy)
        obtain ⟨dx, hdx, ddx⟩ := da.at (List.getElem?_eq_getElem hix)
        obtain ⟨dy, hdy, ddy⟩ := db.at (List.getElem?_eq_getElem hiy)
        rw [hdx] at hdy
        cases hdy
        refine ⟨_, rfl, _, rfl, a, _, _, _, rfl, rfl, .inl (k3.tup _ _ ea), ax, _, rfl, _, rfl, b, _, _, _, rfl, rfl, .inl (k3.tup _ _ eb), ay, xs[i], ys[i], dx, m, rfl, by omega, hds dx (List.mem_of_getElem? hdx), k3.dat ddx, k3.dat ddy, fun H4 s4 => ?_⟩
        have e4 := s4 _ _ e3
        refine ⟨_, e4, ?_, (k3.trans (.same s4)).putN hA, ?_⟩
        · rw [List.length_map, List.length_replicate]
          exact Nat.lt_of_le_of_lt (show i ≤ 100000 by omega) (by decide)
        · rw [upd_same, List.replicate_succ', List.map_append]
          rfl
      · obtain ⟨k3, e3⟩ := g
        refine ⟨A, _, rfl, .of e3, ?_⟩
        have e : (List.replicate ((xs.length : Nat) : Int).toNat true).all id = true := by simp
        rw [e]
        exact q H3 (s12.trans k3.toSame)
  · rintro _ _ ⟨hn, rfl, rfl⟩
    obtain ⟨h1, h2⟩ := scalar hn
    refine ⟨_, rfl, _, rfl, h1, ?_⟩
    rw [h2]
    exact q H2 s12
end
end Vw

set_option maxHeartbeats 4000000
/-! the law -/
namespace Vw
open PySem PySem.Spec PyProof.Rows L2
open C8 (pss_cut tCut)

theorem dp_spot (s : Spot) : Dp 1 (spotD s) := by
  refine .tup (fun d m => ?_) (by simp)
  simp at m
  rcases m with rfl | rfl
  · cases s.1 with
    | none => exact .non
    | some i => exact .int
  · exact .int
theorem dp_path {p : List Spot} (h : p.length ≤ 400) : Dp 2 (pathD p) := by
  refine .tup (fun d m => ?_) (by rw [List.length_map]; omega)
  obtain ⟨s, _, rfl⟩ := List.mem_map.mp m
  exact dp_spot s
theorem dp_sets {sets hands : List D} (h : R.HS sets hands) : Dp 2 (.tup sets) := by
  refine .tup (fun d m => ?_) (by have := h.2.2; omega)
  obtain ⟨x, i, rfl, _⟩ := h.2.1 d m
  refine .tup (fun e me => ?_) (by simp)
  simp at me
  rcases me with rfl | rfl
  · exact .str
  · exact .int
theorem dp_hands {sets hands : List D} {p : List Spot} (h : R.HS sets hands) (hl : hands.length ≤ 100) (hp : p.length ≤ 400) : Dp 4 (.tup (hands.map (R.ins p))) := by
  refine .tup (fun d m => ?_) (by rw [List.length_map]; omega)
  obtain ⟨d, m2, rfl⟩ := List.mem_map.mp m
  obtain ⟨x, i, b, ch, rfl, hc, hcl⟩ := h.1 d m2
  show Dp 3 (.tup [.str x, .int i, .bl b, pathD p, .tup ch])
  refine .tup (fun e me => ?_) (by simp)
  simp at me
  rcases me with rfl | rfl | rfl | rfl | rfl
  · exact .str
  · exact .int
  · exact .bl
  · exact dp_path hp
  · refine .tup (fun e me => ?_) (by omega)
    obtain ⟨x, y, i, rfl⟩ := hc e me
    refine .tup (fun e me => ?_) (by simp)
    simp at me
    rcases me with rfl | rfl | rfl
    · exact .str
    · exact .str
    · exact .int
theorem dp_bx : ∀ (r : R) (p b a : List Spot), r.Wf → r.sz ≤ 100000 → p.length ≤ 400 → b.length + r.dep ≤ 400 → a.length + r.dep ≤ 400 → ∀ d ∈ r.bx p b a, Dp (6 + 3 * r.dep) d
  | .nil, p, b, a, _, _, _, _, _, d, m => nomatch m
  | .plain s tag sets hands row next, p, b, a, hw, hz, hp, hb, ha, d, m => by
    obtain ⟨h1, h2, _, h4, h5⟩ := hw
    simp only [R.sz] at hz
    simp only [R.dep] at hb ha ⊢
    rcases List.mem_cons.mp m with rfl | m
    · have hrow : ∀ d ∈ row.bx p (b ++ [s]) [], Dp (6 + 3 * row.dep) d := dp_bx row p (b ++ [s]) [] h4 (by omega) hp (by rw [List.length_append, List.length_singleton]; omega) (by rw [List.length_nil]; omega)
      have hl := row.bx_len p (b ++ [s]) []
      have e : Dp (9 + 3 * row.dep) (.tup [pathD (a ++ [s]), .tup [.str tag, .tup sets, .tup (hands.map (R.ins p)), .tup (row.bx p (b ++ [s]) [])]]) := by
        rw [show 9 + 3 * row.dep = (8 + 3 * row.dep) + 1 by omega]
        refine .tup (fun e me => ?_) (by show 2 ≤ 100000; decide)
        simp only [List.mem_cons, List.not_mem_nil, or_false] at me
        rcases me with rfl | rfl
        · exact (dp_path (by rw [List.length_append, List.length_singleton]; omega)).up (by omega)
        · rw [show 8 + 3 * row.dep = (7 + 3 * row.dep) + 1 by omega]
          refine .tup (fun e me => ?_) (by show 4 ≤ 100000; decide)
          simp only [List.mem_cons, List.not_mem_nil, or_false] at me
          rcases me with rfl | rfl | rfl | rfl
          · exact .str
          · exact (dp_sets h1).up (by omega)
          · exact (dp_hands h1 h2 hp).up (by omega)
          · rw [show 7 + 3 * row.dep = (6 + 3 * row.dep) + 1 by omega]
            exact .tup hrow (by omega)
      exact e.up (by omega)
    · exact (dp_bx next p b a h5 (by omega) hp (by omega) (by omega) d m).up (by omega)
  | .part s name gives row next, p, b, a, hw, hz, hp, hb, ha, d, m => by
    obtain ⟨_, h4, h5⟩ := hw
    simp only [R.sz] at hz
    simp only [R.dep] at hb ha ⊢
    rcases List.mem_append.mp m with m | m
    · exact (dp_bx row (b ++ [s]) (b ++ [s]) (a ++ [s]) h4 (by omega) (by rw [List.length_append, List.length_singleton]; omega) (by rw [List.length_append, List.length_singleton]; omega) (by rw [List.length_append, List.length_singleton]; omega) d m).up (by omega)
    · exact (dp_bx next p b a h5 (by omega) hp (by omega) (by omega) d m).up (by omega)
  | .give s name num row next, p, b, a, hw, hz, hp, hb, ha, d, m => by
    obtain ⟨_, h4, h5⟩ := hw
    simp only [R.sz] at hz
    simp only [R.dep] at hb ha ⊢
    rcases List.mem_append.mp m with m | m
    · exact (dp_bx row p (b ++ [s]) (a ++ [s]) h4 (by omega) hp (by rw [List.length_append, List.length_singleton]; omega) (by rw [List.length_append, List.length_singleton]; omega) d m).up (by omega)
    · exact (dp_bx next p b a h5 (by omega) hp (by omega) (by omega) d m).up (by omega)
theorem Tr.dp {r : R} (h : Tr 0 r) : Dp 151 (.tup (r.bx [] [] [])) := by
  have h1 := h.dep48
  have h2 := h.sz5
  have h3 := r.bx_len [] [] []
  refine .tup (fun d m => (dp_bx r [] [] [] h.wf (by omega) (by decide) (by rw [List.length_nil]; omega) (by rw [List.length_nil]; omega) d m).up (by omega)) (by omega)

/-- l != m, lists of the same things -/
def rNeS : R2 := fun x y H Q => ∃ a b xs, x = .ref a ∧ y = .ref b ∧ H a = some (.lst xs) ∧ H b = some (.lst xs) ∧ (∀ x ∈ xs, ∃ t, x = V.ref t) ∧ Q (.bl false) H
theorem op_neS {X : Cx} (hu : X.A.units < cLine) : OpR X (compareOp .NotEq) rNeS := by
  intro pins s σ H x y v u Q I rx ry h
  obtain ⟨a, b, xs, rfl, rfl, ea, eb, hx, q⟩ := h
  obtain rfl : v = Value.ref a := rx
  obtain rfl : u = Value.ref b := ry
  obtain ⟨its, r1, p1, _⟩ := I.list (show SqL X.K H a xs from .inl (.inl ea))
  obtain ⟨its2, r2, p2, _⟩ := I.list (show SqL X.K H b xs from .inl (.inl eb))
  have same : ∀ {xs : List V} {i1 i2 : List Value}, (∀ x ∈ xs, ∃ t, x = V.ref t) → Vals xs i1 → Vals xs i2 → i1 = i2 := by
    intro xs
    induction xs with
    | nil => intro i1 i2 _ h k; cases h; cases k; rfl
    | cons x xs ih =>
      intro i1 i2 hh h k
      cases h with
      | cons h t =>
        cases k with
        | cons h' t' =>
          obtain ⟨t0, rfl⟩ := hh x (List.mem_cons_self ..)
          rw [ih (fun y m => hh y (List.mem_cons_of_mem _ m)) t t']
          cases h
          cases h'
          rfl
  have e := same hx r1 r2
  subst e
  refine SeqAt.RcNeAt.lists (e := fun _ => true) p1.isList p2.isList rfl hu (fun j h1 h2 => SeqAt.EqAt.same _) _ _ _ _ ⟨.bl false, H, I, ?_, q⟩
  show Value.bool _ = Value.bool false
  simp

section
variable {P : Program} {w : World} {K : PySem.W.Frag} {mg : Str → Option Value} {base : Heap} {f : Addr} {fd : FuncData} {k : Nat}
def spLaw (K : PySem.W.Frag) : Sp := fun vs H Q _ => ∃ (s : Addr) (ns : List Int), vs = [.ref s] ∧ Scr K H s ns ∧ ns.length ≤ 63 ∧ ∀ H', Q (.bl true) H'
theorem sclaw : FnScope ["_law_script", "_law_tape_here", "_law_house_here", "_law_one", "_law_other", "_law_drawing", "_law_handed", "_law_found"] ["_law_script"] (defScope (Vh.top 38)) := ⟨rfl, rfl, rfl, by decide +kernel, rfl, by decide +kernel, by decide +kernel⟩
theorem ok_law (F : Fun K "law" "law" (Vh.top 38) f fd) (B : Blt mg) (C_law_tape : Cl P w K mg base k "_law_tape" (spTape K)) (C_law_house : Cl P w K mg base k "_law_house" (spHouse K)) (C_law_values : Cl P w K mg base k "_law_values" (spVals P w K)) (C_law_fresh : Cl P w K mg base k "_law_fresh" (spFresh P w))
    (Ctree_of : Cl P w K mg base k "tree_of" spTree) (C_law_tree : Cl P w K mg base k "_law_tree" spTree) (C_law_alike : Cl P w K mg base k "_law_alike" (spAlike 152)) : FnOk P w K mg base CX0 (k + 1) f fd ["_law_script"] (spLaw K) := by
  refine F.ok sclaw (fun vs H Q E h => ?_) (fun cdv A outer s H vs Q E hr h => ?_)
  · obtain ⟨s, ns, rfl, _⟩ := h
    rfl
  obtain ⟨sa, ns, rfl, hs, hl, q⟩ := h
  refine ⟨_, (pss_cons (ps_set (i := 1) sclaw.nd rfl (Or.inl rfl) (pe_cl C_law_tape hr (by rfl) (pa_cons (pv 0) pa_nil)))
  (pss_cons (ps_set (i := 2) sclaw.nd rfl (Or.inl rfl) (pe_cl C_law_house hr (by rfl) (pa_cons (pv 1) pa_nil)))
  (pss_cons (ps_set (i := 3) sclaw.nd rfl (Or.inl rfl) (pe_cl C_law_fresh hr (by rfl) (pa_cons (pv 2) (pa_cons (pe_cl C_law_values hr (by rfl) (pa_cons (pv 1) (pa_cons (pv 2) pa_nil))) pa_nil))))
  (pss_cons (ps_set (i := 4) sclaw.nd rfl (Or.inl rfl) (pe_cl C_law_fresh hr (by rfl) (pa_cons (pv 2) (pa_cons pe_nnew pa_nil))))
  (pss_cons (ps_for PassesOwn.never rfl (pi_list (pe_lst (pa_cons (pv 3) (pa_cons (pv 4) (pa_cons (pv 3) (pa_cons (pv 4) pa_nil)))))) (pg_name (i := 5) sclaw.nd rfl (.inl rfl)) (pss_cons (ps_set (i := 6) sclaw.nd rfl (Or.inl rfl) (pe_callTy call_list_of (by rfl) B.list_ (by decide +kernel) (pa_cons (pv 5) pa_nil)))
  (pss_cons (ps_set (i := 7) sclaw.nd rfl (Or.inl rfl) (pe_cl Ctree_of hr (by rfl) (pa_cons (pv 6) pa_nil)))
  (pss_cons (ps_if (pt_cmpR (op_neS hr.units0) (pv 6) (pv 5) (nomark _)) (pss_one (ps_ret pe_bl)) pss_nil)
  (pss_cons (ps_expr (pe_bm0 PySem.F.plainAttrs_list PySem.F.slot_list_clear PySem.F.type_list_clear mt_clear (pv 6)))
  (pss_one (ps_if (pt_not (pt_val (pe_cl C_law_alike hr (by rfl) (pa_cons (pv 7) (pa_cons (pe_cl C_law_tree hr (by rfl) (pa_cons (pv 5) pa_nil)) pa_nil))))) (pss_one (ps_ret pe_bl)) pss_nil)))))))
  (pss_one (ps_ret pe_bl))))))), ?_⟩
  refine ⟨_, rfl, sa, ns, rfl, hs, hl, fun t H1 ht s1 T1 => ?_⟩
  refine ⟨_, rfl, t, rfl, T1, fun hv names hs H2 hh dh k2 T2 => ?_⟩
  refine ⟨_, rfl, _, rfl, _, rfl, t, hv, names, hs, rfl, T2, hh, dh, fun va H3 vok k3 T3 => ⟨hv, va, names, hs, rfl, hh, k3.dat dh, vok, fun L1 xs1 r1 H4 e1 p1 tr1 s4 => ?_⟩⟩
  have dh4 := Same.dat s4 (k3.dat dh)
  refine ⟨_, rfl, fun vb H5 hvb k5 nd5 => ?_⟩
  have s5 : Same H4 H5 := k5.nil fun b hb => by rw [List.mem_singleton.mp hb]; exact hvb
  refine ⟨hv, vb, names, hs, rfl, hh, Same.dat s5 dh4, ⟨[], nd5, fun k v e => nomatch e⟩, fun L2 xs2 r2 H6 e2 p2 tr2 s6 => ?_⟩
  have s46 := s5.trans s6
  refine ⟨_, rfl, _, rfl, _, rfl, _, rfl, szb, fun l hl => ?_⟩
  have s7 := same_new hl (.lst [.ref L1, .ref L2, .ref L1, .ref L2])
  have el : (upd H6 l (.lst [.ref L1, .ref L2, .ref L1, .ref L2])) l = some (.lst [.ref L1, .ref L2, .ref L1, .ref L2]) := upd_same
  have items : ∀ x ∈ [V.ref L1, .ref L2, .ref L1, .ref L2], ∃ (L : Addr) (xs : List V) (r : R), x = .ref L ∧ (upd H6 l (.lst [.ref L1, .ref L2, .ref L1, .ref L2])) L = some (.lst xs) ∧ Paired (Ent (upd H6 l (.lst [.ref L1, .ref L2, .ref L1, .ref L2])) names) (r.ents []) xs ∧ Tr 0 r := by
    have one : ∃ (L : Addr) (xs : List V) (r : R), V.ref L1 = .ref L ∧ (upd H6 l (.lst [.ref L1, .ref L2, .ref L1, .ref L2])) L = some (.lst xs) ∧ Paired (Ent (upd H6 l (.lst [.ref L1, .ref L2, .ref L1, .ref L2])) names) (r.ents []) xs ∧ Tr 0 r :=
      ⟨L1, xs1, r1, rfl, s7 _ _ (s46 _ _ e1), Paired.mono (fun _ _ h => h.kp (ms := []) (.same (s46.trans s7))) p1, tr1⟩
    have two : ∃ (L : Addr) (xs : List V) (r : R), V.ref L2 = .ref L ∧ (upd H6 l (.lst [.ref L1, .ref L2, .ref L1, .ref L2])) L = some (.lst xs) ∧ Paired (Ent (upd H6 l (.lst [.ref L1, .ref L2, .ref L1, .ref L2])) names) (r.ents []) xs ∧ Tr 0 r :=
      ⟨L2, xs2, r2, rfl, s7 _ _ e2, Paired.mono (fun _ _ h => h.kp (ms := []) (.same s7)) p2, tr2⟩
    intro x hx
    simp only [List.mem_cons, List.not_mem_nil, or_false] at hx
    rcases hx with rfl | rfl | rfl | rfl
    · exact one
    · exact two
    · exact one
    · exact two
  generalize upd H6 l (.lst [.ref L1, .ref L2, .ref L1, .ref L2]) = H7 at *
  refine ⟨l, rfl, ⟨_, .of el⟩, ?_⟩
  refine for_list (K := K) (xs := [.ref L1, .ref L2, .ref L1, .ref L2]) (fun i σ H8 => (∃ y5 y6 y7, σ = [some (.ref sa), some (.ref t), some hv, some (.ref L1), some (.ref L2), y5, y6, y7]) ∧ Same H7 H8)
    ⟨⟨_, _, _, rfl⟩, .refl _⟩ (fun i σ H8 _ hP => .of (hP.2 _ _ el)) (fun i x σ H8 hx hP => ?_) fun σ H8 hP => ?_
  · obtain ⟨⟨y5, y6, y7, rfl⟩, s8⟩ := hP
    obtain ⟨L, xs, r, rfl, eL, pE, tr⟩ := items x (List.mem_of_getElem? hx)
    have eL8 := s8 _ _ eL
    refine ⟨_, rfl, L, xs, rfl, .inl (.of eL8), fun h hh => ?_⟩
    have s9 := same_new hh (.lst xs)
    have eh9 : (upd H8 h (.lst xs)) h = some (.lst xs) := upd_same
    have nhL : L ≠ h := ne_of_none eL8 hh
    have k89 : Kp [] H8 (upd H8 h (.lst xs)) := .same s9
    generalize upd H8 h (.lst xs) = H9 at *
    refine ⟨_, rfl, h, xs, names, r, rfl, eh9, Paired.mono (fun _ _ e => e.kp (ms := []) (.same (s8.trans s9))) pE, tr, fun v H10 dv s10 => ?_⟩
    have eh10 := s10 _ _ eh9
    have eL10 := s10 _ _ (s9 _ _ eL8)
    refine ⟨_, rfl, _, rfl, h, L, xs, rfl, rfl, eh10, eL10, fun x m => ?_, _, rfl, ?_⟩
    · obtain ⟨e0, he⟩ := Paired.right pE x m
      obtain ⟨a, _, _, _, _, _, _, _, _, rfl, _⟩ := he
      exact ⟨a, rfl⟩
    refine ite2 (fun z => nomatch z) (fun _ => ?_)
    refine ⟨_, rfl, .inl ⟨rfl, _, .of eh10⟩, h, xs, rfl, rfl, eh10, ?_⟩
    have k11 : Kp [h] H10 (upd H10 h (.lst [])) := .lst eh10 _
    have eL11 := k11.at1 nhL eL10
    have k8x : Kp [] H8 (upd H10 h (.lst [])) := (k89.trans (.same s10)).putN hh
    generalize upd H10 h (.lst []) = H11 at *
    refine ⟨_, rfl, _, rfl, L, xs, names, r, rfl, eL11, Paired.mono (fun _ _ e => (e.kp (ms := []) (.same s8)).kp k8x) pE, tr, fun v2 H12 dv2 s12 => ?_⟩
    refine ⟨v, v2, _, 151, rfl, by decide, tr.dp, Same.dat s12 (k11.dat dv), dv2, fun H13 s13 => ?_⟩
    refine ⟨_, rfl, ?_⟩
    refine ite2 (fun z => nomatch z) (fun _ => ?_)
    exact ⟨⟨_, _, _, rfl⟩, s8.trans (k8x.toSame.trans (s12.trans s13))⟩
  · obtain ⟨⟨y5, y6, y7, rfl⟩, s8⟩ := hP
    exact q H8
end
end Vw

set_option maxHeartbeats 0
/-! the head: the top is run once, its facts are read by names -/
namespace Vh
open PySem PySem.Spec PyProof.Rows L2
abbrev dF (x : Str) (i : Nat) : He.FnD := ⟨(x, none), x, x, defArgs (top i), defBody (top i), defScope (top i)⟩
def fn : List He.FnD := [dF "boxes_of" 1, dF "tree_of" 2, dF "_law_tape" 4, dF "_law_draw" 5, dF "_law_names" 6, dF "_law_number" 7, dF "_law_leaf" 8, dF "_law_sum" 9, dF "_law_key" 10, dF "_law_pairs" 11, dF "_law_hands" 12, dF "_law_plain" 13, dF "_law_part_line" 14, dF "_law_each" 15, dF "_law_line" 16, dF "_law_lines" 17, dF "_law_part" 18, dF "_law_house" 19, dF "_law_reckoned" 20, dF "_law_numbers" 21] ++ [dF "_law_thing" 22, dF "_law_brought" 23, dF "_law_row" 24, dF "_law_piece" 25, dF "_law_over" 26, dF "_law_parts" 27, dF "_law_named" 28, dF "_law_answers" 29, dF "_law_within" 30, dF "_law_fresh" 31, dF "_law_boxes" 32, dF "_law_values" 33, dF "_law_kind" 34, dF "_law_alike" 35, dF "_law_boxes_of" 36, dF "_law_tree" 37, dF "law" 38]
def fa1 : List He.Fa := [.glo "boxes_of", .glo "tree_of", .glo "_law_tape", .glo "_law_draw", .glo "_law_names", .glo "_law_number", .glo "_law_leaf", .glo "_law_sum", .glo "_law_key", .glo "_law_pairs", .glo "_law_hands", .glo "_law_plain", .glo "_law_part_line", .glo "_law_each", .glo "_law_line", .glo "_law_lines", .glo "_law_part", .glo "_law_house", .glo "_law_reckoned", .glo "_law_numbers"] ++ [.glo "_law_thing", .glo "_law_brought", .glo "_law_row", .glo "_law_piece", .glo "_law_over", .glo "_law_parts", .glo "_law_named", .glo "_law_answers", .glo "_law_within", .glo "_law_fresh", .glo "_law_boxes", .glo "_law_values", .glo "_law_kind", .glo "_law_alike", .glo "_law_boxes_of", .glo "_law_tree", .glo "law"]
def fa2 : List He.Fa := [.free "abs", .free "all", .free "bool", .free "dict", .free "int", .free "isinstance", .free "len", .free "list", .free "max", .free "min", .free "range", .free "sorted", .free "str", .free "tuple"]
def fa3 : List He.Fa := [.keep "boxes_of", .keep "tree_of", .keep "_law_tape", .keep "_law_draw", .keep "_law_names", .keep "_law_number", .keep "_law_leaf", .keep "_law_sum", .keep "_law_key", .keep "_law_pairs", .keep "_law_hands", .keep "_law_plain", .keep "_law_part_line", .keep "_law_each", .keep "_law_line", .keep "_law_lines", .keep "_law_part", .keep "_law_house", .keep "_law_reckoned", .keep "_law_numbers"] ++ [.keep "_law_thing", .keep "_law_brought", .keep "_law_row", .keep "_law_piece", .keep "_law_over", .keep "_law_parts", .keep "_law_named", .keep "_law_answers", .keep "_law_within", .keep "_law_fresh", .keep "_law_boxes", .keep "_law_values", .keep "_law_kind", .keep "_law_alike", .keep "_law_boxes_of", .keep "_law_tree", .keep "law"]
def fa : List He.Fa := fa1 ++ fa2 ++ fa3
abbrev R : PySem.W.OpenRow := PySem.W.OpenLaw.row PySem.Challenge.rw_viewwood_k31_whole_trees_of_drawings
abbrev hk : PySem.W.Hook := He.hookE 3 fa fn
def ob (s : PySem.W.SharedT) : He.Al := He.obsG 3 fa fn (HandSHeadRun.getT s)
theorem ob_eq (s : PySem.W.SharedT) : ob s = hk.obs s.abs := He.obsG_eq (HandSHeadRun.getT_eq s)
def loose1 : List Str := ["boxes_of", "tree_of", "_law_tape", "_law_draw", "_law_names", "_law_number", "_law_leaf", "_law_sum", "_law_key", "_law_pairs", "_law_hands", "_law_plain", "_law_part_line", "_law_each", "_law_line", "_law_lines", "_law_part", "_law_house", "_law_reckoned", "_law_numbers"]
def loose2 : List Str := ["_law_thing", "_law_brought", "_law_row", "_law_piece", "_law_over", "_law_parts", "_law_named", "_law_answers", "_law_within", "_law_fresh", "_law_boxes", "_law_values", "_law_kind", "_law_alike", "_law_boxes_of", "_law_tree"]
def loose : List Str := loose1 ++ loose2

theorem run (w : World) : HandSHeadRun.RunEq R (PySem.W.view R.prog [38]) hk ob 2000 loose w := by
  intro os
  kernel_rfl
end Vh

set_option maxHeartbeats 4000000
/-! all closed; the head's facts -/
namespace Vw
open PySem PySem.Spec PyProof.Rows L2

/-- the rest of the defs, from the head alone -/
structure RestG (K : PySem.W.Frag) (mg : Str → Option Value) : Prop where
  gboxes_of : Gf K mg "boxes_of" 1 ["entries", "path", "row", "base", "ahead"]
  gtree_of : Gf K mg "tree_of" 2 ["drawing"]
  gl_tape : Gf K mg "_law_tape" 4 ["_law_script"]
  gl_reckoned : Gf K mg "_law_reckoned" 20 ["_law_one", "_law_answers_here", "_law_turns", "_law_reads"]
  gl_numbers : Gf K mg "_law_numbers" 21 ["_law_pairs_here", "_law_answers_here", "_law_turns", "_law_reads"]
  gl_thing : Gf K mg "_law_thing" 22 ["_law_line_here", "_law_spot", "_law_answers_here", "_law_turns", "_law_reads"]
  gl_brought : Gf K mg "_law_brought" 23 ["_law_lines_here", "_law_asked", "_law_turns", "_law_found", "_law_counts"]
  gl_row : Gf K mg "_law_row" 24 ["_law_lines_here", "_law_answers_here", "_law_turns", "_law_reads"]
  gl_piece : Gf K mg "_law_piece" 25 ["_law_part_here", "_law_answers_here"]
  gl_over : Gf K mg "_law_over" 26 ["_law_downs", "_law_more"]
  gl_parts : Gf K mg "_law_parts" 27 ["_law_row_here", "_law_spots", "_law_downs"]
  gl_named : Gf K mg "_law_named" 28 ["_law_house_here", "_law_name"]
  gl_answers : Gf K mg "_law_answers" 29 ["_law_house_here", "_law_values_here", "_law_due"]
  gl_within : Gf K mg "_law_within" 30 ["_law_house_here", "_law_values_here", "_law_due"]
  gl_fresh : Gf K mg "_law_fresh" 31 ["_law_house_here", "_law_values_here"]
  gl_boxes : Gf K mg "_law_boxes" 32 ["_law_tape_here", "_law_part_here"]
  gl_values : Gf K mg "_law_values" 33 ["_law_tape_here", "_law_house_here"]
  gl_kind : Gf K mg "_law_kind" 34 ["_law_thing_here"]
  gl_alike : Gf K mg "_law_alike" 35 ["_law_one", "_law_other"]
  gl_boxes_of : Gf K mg "_law_boxes_of" 36 ["_law_entries", "_law_path", "_law_row_here", "_law_base", "_law_ahead"]
  gl_tree : Gf K mg "_law_tree" 37 ["_law_drawing"]
section
variable {P : Program} {w : World} {K : PySem.W.Frag} {mg : Str → Option Value} {base : Heap}
theorem cl_tape (g : RestG K mg) (B : Blt mg) : Cl P w K mg base 1 "_law_tape" (spTape K) := g.gl_tape.cl fun f fd F => ok_tape F
theorem cl_reck (g : RestG K mg) (B : Blt mg) : ∀ n, Cl P w K mg base n "_law_reckoned" (spReck n)
  | 0 => g.gl_reckoned.cl fun f fd F => sp_none (x := "_law_reckoned") (fun vs H Q E h => by obtain ⟨_, _, _, _, _, _, m, _, _, hm, _⟩ := h; exact Nat.not_lt_zero _ hm)
  | n + 1 => g.gl_reckoned.cl fun f fd F => ok_reck (k := n) F B (cl_reck g B n)
theorem cl_nums (g : RestG K mg) (B : Blt mg) : Cl P w K mg base 4 "_law_numbers" spNums := g.gl_numbers.cl fun f fd F => ok_numbers F B (cl_reck g B 3)
theorem cl_row (g : RestG K mg) (B : Blt mg) : ∀ n, Cl P w K mg base (4 + 3 * n) "_law_row" (spRow n) ∧ Cl P w K mg base (4 + 3 * n) "_law_brought" (spBrought n P w)
  | 0 => ⟨g.gl_row.cl fun f fd F => (sp_none (x := "_law_row") (fun vs H Q E h => by obtain ⟨_, _, _, _, _, _, _, m, _, _, _, _, hm, _⟩ := h; exact Nat.not_lt_zero _ hm)).mono (Nat.zero_le _),
    g.gl_brought.cl fun f fd F => (sp_none (x := "_law_brought") (fun vs H Q E h => by obtain ⟨_, _, _, _, _, _, _, _, _, _, m, _, _, _, _, _, _, _, hm, _⟩ := h; exact Nat.not_lt_zero _ hm)).mono (Nat.zero_le _)⟩
  | n + 1 => by
    obtain ⟨c1, c2⟩ := cl_row g B n
    have t : Cl P w K mg base (4 + 3 * n + 1) "_law_thing" (spThing (n + 1)) := g.gl_thing.cl fun f fd F => ok_thing F B ((cl_reck g B 3).mono (by omega)) ((cl_nums g B).mono (by omega)) c1
    have b : Cl P w K mg base (4 + 3 * n + 2) "_law_brought" (spBrought (n + 1) P w) := g.gl_brought.cl fun f fd F => ok_brought F B ((cl_reck g B 3).mono (by omega)) t (c2.mono (by omega))
    have r : Cl P w K mg base (4 + 3 * n + 3) "_law_row" (spRow (n + 1)) := g.gl_row.cl fun f fd F => ok_row F B b
    exact ⟨r.mono (by omega), b.mono (by omega)⟩
theorem cl_piece (g : RestG K mg) (B : Blt mg) : Cl P w K mg base 29 "_law_piece" spPiece := g.gl_piece.cl fun f fd F => ok_piece F B ((cl_reck g B 3).mono (by decide)) (cl_row g B 8).1
theorem cl_over (g : RestG K mg) (B : Blt mg) : Cl P w K mg base 1 "_law_over" spOver := g.gl_over.cl fun f fd F => ok_over (k := 0) F B
theorem cl_parts (g : RestG K mg) (B : Blt mg) : ∀ n, Cl P w K mg base (1 + n) "_law_parts" (spParts n)
  | 0 => g.gl_parts.cl fun f fd F => (sp_none (x := "_law_parts") (fun vs H Q E h => by obtain ⟨_, _, _, _, _, _, _, _, hm, _⟩ := h; exact Nat.not_lt_zero _ hm)).mono (Nat.zero_le _)
  | n + 1 => g.gl_parts.cl fun f fd F => ok_parts (k := 1 + n) F B ((cl_over g B).mono (by omega)) (cl_parts g B n)
theorem cl_named (g : RestG K mg) (B : Blt mg) : Cl P w K mg base 1 "_law_named" spNamed := g.gl_named.cl fun f fd F => ok_named (k := 0) F B
theorem cl_answers (g : RestG K mg) (B : Blt mg) : Cl P w K mg base 2 "_law_answers" (spAnswers P w) := g.gl_answers.cl fun f fd F => ok_answers F B (cl_named g B)
theorem cl_within (g : RestG K mg) (B : Blt mg) : ∀ n, Cl P w K mg base (29 + n) "_law_within" (spWithin n P w)
  | 0 => g.gl_within.cl fun f fd F => (sp_none (x := "_law_within") (fun vs H Q E h => by obtain ⟨_, _, _, _, _, _, _, _, _, _, _, hm, _⟩ := h; exact Nat.not_lt_zero _ hm)).mono (Nat.zero_le _)
  | n + 1 => g.gl_within.cl fun f fd F => ok_within (k := 29 + n) F B ((cl_piece g B).mono (by omega)) ((cl_named g B).mono (by omega)) ((cl_answers g B).mono (by omega)) ((cl_parts g B 9).mono (by omega)) ((cl_over g B).mono (by omega)) (cl_within g B n)
theorem cl_fresh (g : RestG K mg) (B : Blt mg) : Cl P w K mg base 37 "_law_fresh" (spFresh P w) := g.gl_fresh.cl fun f fd F => ok_fresh F B (cl_within g B 7)
theorem cl_boxes (g : RestG K mg) (g' : GenG K mg) (B : Blt mg) : Cl P w K mg base 3 "_law_boxes" (spBoxes K) := g.gl_boxes.cl fun f fd F => ok_boxes F B (cl_number g' B)
theorem cl_values (g : RestG K mg) (g' : GenG K mg) (B : Blt mg) : Cl P w K mg base 38 "_law_values" (spVals P w K) := g.gl_values.cl fun f fd F => ok_values F B ((cl_draw g' B).mono (by decide)) ((cl_named g B).mono (by decide)) (cl_fresh g B) ((cl_boxes g g' B).mono (by decide))
theorem cl_boxes_of (g : RestG K mg) (B : Blt mg) : ∀ n, Cl P w K mg base n "boxes_of" (spBx n P w)
  | 0 => g.gboxes_of.cl fun f fd F => sp_none (x := "boxes_of") (fun vs H Q E h => by obtain ⟨_, _, _, _, _, _, _, _, _, _, _, hm, _⟩ := h; exact Nat.not_lt_zero _ hm)
  | n + 1 => g.gboxes_of.cl fun f fd F => ok_boxes_of (k := n) F B (cl_boxes_of g B n)
theorem cl_lboxes_of (g : RestG K mg) (B : Blt mg) : ∀ n, Cl P w K mg base n "_law_boxes_of" (spBx n P w)
  | 0 => g.gl_boxes_of.cl fun f fd F => sp_none (x := "_law_boxes_of") (fun vs H Q E h => by obtain ⟨_, _, _, _, _, _, _, _, _, _, _, hm, _⟩ := h; exact Nat.not_lt_zero _ hm)
  | n + 1 => g.gl_boxes_of.cl fun f fd F => ok_lboxes_of (k := n) F B (cl_lboxes_of g B n)
theorem cl_tree_of (g : RestG K mg) (B : Blt mg) : Cl P w K mg base 61 "tree_of" spTree := g.gtree_of.cl fun f fd F => ok_tree_of F B (cl_boxes_of g B 60)
theorem cl_ltree (g : RestG K mg) (B : Blt mg) : Cl P w K mg base 61 "_law_tree" spTree := g.gl_tree.cl fun f fd F => ok_ltree F B (cl_lboxes_of g B 60)
theorem cl_kind (g : RestG K mg) (B : Blt mg) : Cl P w K mg base 1 "_law_kind" spKind := g.gl_kind.cl fun f fd F => ok_kind (k := 0) F B
theorem cl_alike (g : RestG K mg) (B : Blt mg) : ∀ n, Cl P w K mg base (1 + n) "_law_alike" (spAlike n)
  | 0 => g.gl_alike.cl fun f fd F => (sp_none (x := "_law_alike") (fun vs H Q E h => by obtain ⟨_, _, _, m, _, hm, _⟩ := h; exact Nat.not_lt_zero _ hm)).mono (Nat.zero_le _)
  | n + 1 => g.gl_alike.cl fun f fd F => ok_alike (k := 1 + n) F B ((cl_kind g B).mono (by omega)) (cl_alike g B n)
theorem all_law {f : Addr} {fd : FuncData} (g : RestG K mg) (g' : GenG K mg) (B : Blt mg) (F : Fun K "law" "law" (Vh.top 38) f fd) : FnOk P w K mg base CX0 154 f fd ["_law_script"] (spLaw K) :=
  ok_law F B ((cl_tape g B).mono (by decide)) ((cl_house g' B).mono (by decide)) ((cl_values g g' B).mono (by decide)) ((cl_fresh g B).mono (by decide)) ((cl_tree_of g B).mono (by decide)) ((cl_ltree g B).mono (by decide)) (cl_alike g B 152)
end

section
variable {K : PySem.W.Frag} {h : Heap} {mg : Str → Option Value}
theorem fun_of (c : He.SaysE Vh.fa Vh.fn K) (i : Nat) {x : Str} {idx : Nat} (hf : Vh.fn[i]? = some (Vh.dF x idx)) (hk : Vh.fa[51 + i]? = some (.keep x)) : ∃ fd, Fun K x x (Vh.top idx) (He.ga K x) fd := by
  obtain ⟨oc, od, osl, kV, doc, pm, an, cdv, ct, l, cc⟩ := c.def_ i hf
  exact ⟨_, fun_mk l cc (He.keep_ok (c.fact (51 + i) hk))⟩
theorem gf_of (X : K.In h) (G : h.Ns mainGlobals mg) (c : He.SaysE Vh.fa Vh.fn K) (i : Nat) {x : Str} {idx : Nat} {ps : List Str} (hf : Vh.fn[i]? = some (Vh.dF x idx)) (hg : Vh.fa[i]? = some (.glo x)) (hk : Vh.fa[51 + i]? = some (.keep x))
    (hb : ∀ (kV doc pm : Value) (an : Option Addr) (cdv ct : Value) (us : List Value), us.length = ps.length → bindArgs (PySem.W.fnOf x x (defArgs (Vh.top idx)) (defBody (Vh.top idx)) (defScope (Vh.top idx)) .none kV doc pm an cdv ct) ⟨us, []⟩ = pure (ps.zip us)) : Gf K mg x idx ps := by
  obtain ⟨fd, F⟩ := fun_of c i hf hk
  exact ⟨_, fd, F, He.glo_ok X G (c.fact i hg), F.binds hb⟩
theorem genG (X : K.In h) (G : h.Ns mainGlobals mg) (c : He.SaysE Vh.fa Vh.fn K) : GenG K mg where
  draw := gf_of X G c 3 (x := "_law_draw") (idx := 5) rfl rfl rfl (fun _ _ _ _ _ _ us hl => match us, hl with | [_, _], _ => rfl)
  names := gf_of X G c 4 (x := "_law_names") (idx := 6) rfl rfl rfl (fun _ _ _ _ _ _ us hl => match us, hl with | [_, _], _ => rfl)
  number := gf_of X G c 5 (x := "_law_number") (idx := 7) rfl rfl rfl (fun _ _ _ _ _ _ us hl => match us, hl with | [_], _ => rfl)
  leaf := gf_of X G c 6 (x := "_law_leaf") (idx := 8) rfl rfl rfl (fun _ _ _ _ _ _ us hl => match us, hl with | [_, _, _], _ => rfl)
  sum := gf_of X G c 7 (x := "_law_sum") (idx := 9) rfl rfl rfl (fun _ _ _ _ _ _ us hl => match us, hl with | [_, _, _, _], _ => rfl)
  key := gf_of X G c 8 (x := "_law_key") (idx := 10) rfl rfl rfl (fun _ _ _ _ _ _ us hl => match us, hl with | [_, _, _], _ => rfl)
  pairs := gf_of X G c 9 (x := "_law_pairs") (idx := 11) rfl rfl rfl (fun _ _ _ _ _ _ us hl => match us, hl with | [_, _, _, _], _ => rfl)
  hands := gf_of X G c 10 (x := "_law_hands") (idx := 12) rfl rfl rfl (fun _ _ _ _ _ _ us hl => match us, hl with | [_, _, _], _ => rfl)
  plain := gf_of X G c 11 (x := "_law_plain") (idx := 13) rfl rfl rfl (fun _ _ _ _ _ _ us hl => match us, hl with | [_, _, _, _], _ => rfl)
  partl := gf_of X G c 12 (x := "_law_part_line") (idx := 14) rfl rfl rfl (fun _ _ _ _ _ _ us hl => match us, hl with | [_, _, _, _], _ => rfl)
  each := gf_of X G c 13 (x := "_law_each") (idx := 15) rfl rfl rfl (fun _ _ _ _ _ _ us hl => match us, hl with | [_, _, _], _ => rfl)
  line := gf_of X G c 14 (x := "_law_line") (idx := 16) rfl rfl rfl (fun _ _ _ _ _ _ us hl => match us, hl with | [_, _, _, _], _ => rfl)
  lines := gf_of X G c 15 (x := "_law_lines") (idx := 17) rfl rfl rfl (fun _ _ _ _ _ _ us hl => match us, hl with | [_, _, _, _], _ => rfl)
  part := gf_of X G c 16 (x := "_law_part") (idx := 18) rfl rfl rfl (fun _ _ _ _ _ _ us hl => match us, hl with | [_, _, _, _], _ => rfl)
  house := gf_of X G c 17 (x := "_law_house") (idx := 19) rfl rfl rfl (fun _ _ _ _ _ _ us hl => match us, hl with | [_], _ => rfl)
theorem restG (X : K.In h) (G : h.Ns mainGlobals mg) (c : He.SaysE Vh.fa Vh.fn K) : RestG K mg where
  gboxes_of := gf_of X G c 0 (x := "boxes_of") (idx := 1) rfl rfl rfl (fun _ _ _ _ _ _ us hl => match us, hl with | [_, _, _, _, _], _ => rfl)
  gtree_of := gf_of X G c 1 (x := "tree_of") (idx := 2) rfl rfl rfl (fun _ _ _ _ _ _ us hl => match us, hl with | [_], _ => rfl)
  gl_tape := gf_of X G c 2 (x := "_law_tape") (idx := 4) rfl rfl rfl (fun _ _ _ _ _ _ us hl => match us, hl with | [_], _ => rfl)
  gl_reckoned := gf_of X G c 18 (x := "_law_reckoned") (idx := 20) rfl rfl rfl (fun _ _ _ _ _ _ us hl => match us, hl with | [_, _, _, _], _ => rfl)
  gl_numbers := gf_of X G c 19 (x := "_law_numbers") (idx := 21) rfl rfl rfl (fun _ _ _ _ _ _ us hl => match us, hl with | [_, _, _, _], _ => rfl)
  gl_thing := gf_of X G c 20 (x := "_law_thing") (idx := 22) rfl rfl rfl (fun _ _ _ _ _ _ us hl => match us, hl with | [_, _, _, _, _], _ => rfl)
  gl_brought := gf_of X G c 21 (x := "_law_brought") (idx := 23) rfl rfl rfl (fun _ _ _ _ _ _ us hl => match us, hl with | [_, _, _, _, _], _ => rfl)
  gl_row := gf_of X G c 22 (x := "_law_row") (idx := 24) rfl rfl rfl (fun _ _ _ _ _ _ us hl => match us, hl with | [_, _, _, _], _ => rfl)
  gl_piece := gf_of X G c 23 (x := "_law_piece") (idx := 25) rfl rfl rfl (fun _ _ _ _ _ _ us hl => match us, hl with | [_, _], _ => rfl)
  gl_over := gf_of X G c 24 (x := "_law_over") (idx := 26) rfl rfl rfl (fun _ _ _ _ _ _ us hl => match us, hl with | [_, _], _ => rfl)
  gl_parts := gf_of X G c 25 (x := "_law_parts") (idx := 27) rfl rfl rfl (fun _ _ _ _ _ _ us hl => match us, hl with | [_, _, _], _ => rfl)
  gl_named := gf_of X G c 26 (x := "_law_named") (idx := 28) rfl rfl rfl (fun _ _ _ _ _ _ us hl => match us, hl with | [_, _], _ => rfl)
  gl_answers := gf_of X G c 27 (x := "_law_answers") (idx := 29) rfl rfl rfl (fun _ _ _ _ _ _ us hl => match us, hl with | [_, _, _], _ => rfl)
  gl_within := gf_of X G c 28 (x := "_law_within") (idx := 30) rfl rfl rfl (fun _ _ _ _ _ _ us hl => match us, hl with | [_, _, _], _ => rfl)
  gl_fresh := gf_of X G c 29 (x := "_law_fresh") (idx := 31) rfl rfl rfl (fun _ _ _ _ _ _ us hl => match us, hl with | [_, _], _ => rfl)
  gl_boxes := gf_of X G c 30 (x := "_law_boxes") (idx := 32) rfl rfl rfl (fun _ _ _ _ _ _ us hl => match us, hl with | [_, _], _ => rfl)
  gl_values := gf_of X G c 31 (x := "_law_values") (idx := 33) rfl rfl rfl (fun _ _ _ _ _ _ us hl => match us, hl with | [_, _], _ => rfl)
  gl_kind := gf_of X G c 32 (x := "_law_kind") (idx := 34) rfl rfl rfl (fun _ _ _ _ _ _ us hl => match us, hl with | [_], _ => rfl)
  gl_alike := gf_of X G c 33 (x := "_law_alike") (idx := 35) rfl rfl rfl (fun _ _ _ _ _ _ us hl => match us, hl with | [_, _], _ => rfl)
  gl_boxes_of := gf_of X G c 34 (x := "_law_boxes_of") (idx := 36) rfl rfl rfl (fun _ _ _ _ _ _ us hl => match us, hl with | [_, _, _, _, _], _ => rfl)
  gl_tree := gf_of X G c 35 (x := "_law_tree") (idx := 37) rfl rfl rfl (fun _ _ _ _ _ _ us hl => match us, hl with | [_], _ => rfl)
theorem blt (X : K.In h) (G : h.Ns mainGlobals mg) (c : He.SaysE Vh.fa Vh.fn K) : Blt mg where
  abs_ := He.free_ok X G (c.fact 37 (f := .free "abs") rfl)
  all_ := He.free_ok X G (c.fact 38 (f := .free "all") rfl)
  bool_ := He.free_ok X G (c.fact 39 (f := .free "bool") rfl)
  dict_ := He.free_ok X G (c.fact 40 (f := .free "dict") rfl)
  int_ := He.free_ok X G (c.fact 41 (f := .free "int") rfl)
  isinstance_ := He.free_ok X G (c.fact 42 (f := .free "isinstance") rfl)
  len_ := He.free_ok X G (c.fact 43 (f := .free "len") rfl)
  list_ := He.free_ok X G (c.fact 44 (f := .free "list") rfl)
  max_ := He.free_ok X G (c.fact 45 (f := .free "max") rfl)
  min_ := He.free_ok X G (c.fact 46 (f := .free "min") rfl)
  range_ := He.free_ok X G (c.fact 47 (f := .free "range") rfl)
  sorted_ := He.free_ok X G (c.fact 48 (f := .free "sorted") rfl)
  str_ := He.free_ok X G (c.fact 49 (f := .free "str") rfl)
  tuple_ := He.free_ok X G (c.fact 50 (f := .free "tuple") rfl)
theorem facts {P : Program} {w : World} {f : Addr} (X : K.In h) (G : h.Ns mainGlobals mg) (hfa : mg ("law" : Str) = some (.ref f)) (c : He.SaysE Vh.fa Vh.fn K) :
    ∃ fd : FuncData, (∀ (s : Shared) (v : Value), BindsTo s fd ⟨[v], []⟩ [("_law_script", v)]) ∧ ∀ base : Heap, K.In base → base.Ns mainGlobals mg → FnOk P w K mg base CX0 154 f fd ["_law_script"] (spLaw K) := by
  obtain ⟨fd, F⟩ := fun_of c 36 (x := "law") (idx := 38) rfl rfl
  have e := hfa.symm.trans (He.glo_ok X G (c.fact 36 (f := .glo "law") rfl))
  cases e
  obtain ⟨oc, od, kV, doc, pm, an, cdv, ct, osl, rfl, lk, hcd⟩ := id F.ex
  refine ⟨_, fun s v => ?_, fun base _ _ => all_law (restG X G c) (genG X G c) (blt X G c) F⟩
  exact .of_eq rfl
end
end Vw

set_option maxHeartbeats 0
open PySem PySem.W PySem.Calls PyProof.Rows
theorem PySem.Challenge.cw_viewwood_k31_whole_trees_of_drawings_holds : PySem.Challenge.rw_viewwood_k31_whole_trees_of_drawings.Holds := by
  w_on; o_law
  refine HandSHeadRun.head_any (r := OpenLaw.row PySem.Challenge.rw_viewwood_k31_whole_trees_of_drawings) (q := view (OpenLaw.row PySem.Challenge.rw_viewwood_k31_whole_trees_of_drawings).prog [38]) (H := Vh.hk) (ob := Vh.ob) (M := 2000) (loose := Vh.loose) (d := HandSHeadRun.topDef (OpenLaw.row PySem.Challenge.rw_viewwood_k31_whole_trees_of_drawings).prog 38) (kwd := []) Vh.ob_eq
    (by kernel_rfl) (fun s => by kernel_rfl) Vh.run (by kernel_rfl) (by kernel_rfl) (by kernel_rfl) (by rfl) (by first | assumption | decide +kernel) (by decide +kernel) ⟨rfl, rfl, rfl, rfl, rfl, by decide +kernel⟩ ?hw ?hc
  case hw => w_witness2
  case hc =>
    refine L2.walk_ofE (l := PySem.Challenge.rw_viewwood_k31_whole_trees_of_drawings) (n := 63) (k := 154) (x := "_law_script") (CX := L2.CX0) rfl (by decide) (by kernel_rfl) ⟨rfl, by decide, by decide⟩ ?F (fun _ _ _ _ z => z)
    intro w mg fa h Y G hmg0
    obtain ⟨K, KX, c⟩ := Y
    have hmg : mg ("law" : PySem.Str) = some (.ref fa) := by
      have e : (HandSHeadRun.topDef (OpenLaw.row PySem.Challenge.rw_viewwood_k31_whole_trees_of_drawings).prog 38).name = ("law" : PySem.Str) := by kernel_rfl
      rw [← e]
      exact hmg0
    obtain ⟨fd, hb, hF⟩ := Vw.facts (P := (PySem.Challenge.rw_viewwood_k31_whole_trees_of_drawings).prog) (w := w) KX G hmg c
    refine ⟨K, fd, Vw.spLaw K, KX, hb, fun H a ns hl ho hS => ⟨a, ns, rfl, ?_, hl, fun _ => rfl⟩, hF⟩
    rcases hS with (hS | ⟨o, hS⟩) | hS
    · rcases ho a with z | ⟨o, xs, z⟩
      · rw [z] at hS; cases hS
      · rw [z] at hS; cases hS
    · exact .inl ⟨o, hS⟩
    · exact .inr hS
