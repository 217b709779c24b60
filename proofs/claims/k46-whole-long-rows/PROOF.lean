import PyProof.Rows.All
import Wide.All
import OpenK.AllK
import Wide.FinOn
import HandS.ForMost
import HandS.Sort
import HandS.SortRule
import HandS.SortInts
import HandS.TupAny
import HandS.TupLen
import HandS.IsInst
import HandS.Remove
import HandS.Conv
import KE.KDictKeyed
import KE.KDictDisplayH
import HandS.More
import KE.DatumOrd
import KE.GoesMore
import KE.GoesEnum
import HandS.SetFor
import PySem.Challenge.RW_tanglehouse_k46_whole_long_rows
section
set_option Elab.async false
set_option linter.all false
/-! Tanglehouse: what the program computes, in plain Lean. -/
namespace TH
/-- polynomials, joinings, dicts of whole numbers: lists of pairs -/
abbrev PL := List (Int × Int)
/-! ### dicts of whole numbers -/
def dv (d : PL) (k : Int) : Option Int := (d.find? fun p => decide (p.1 = k)).map (·.2)
def dp (d : PL) (k v : Int) : PL := if (d.any fun p => decide (p.1 = k)) = true then d.map (fun p => if p.1 = k then (p.1, v) else p) else d ++ [(k, v)]
def dd (d : PL) (k : Int) : PL := d.filter fun p => decide (p.1 ≠ k)
/-! ### sorting -/
def sortI (l : List Int) : List Int := l.mergeSort (fun a b => decide (a ≤ b))
theorem sortI_perm (l : List Int) : (sortI l).Perm l := List.mergeSort_perm _ _
theorem sortI_sorted (l : List Int) : (sortI l).Pairwise (· ≤ ·) := by
  have h := List.pairwise_mergeSort (le := fun a b : Int => decide (a ≤ b)) (fun a b c h1 h2 => by simp only [decide_eq_true_eq] at *; omega) (fun a b => by simp only [Bool.or_eq_true, decide_eq_true_eq]; omega) l
  exact h.imp fun h => of_decide_eq_true h
theorem sortI_unique {l ys : List Int} (h1 : ys.Perm l) (h2 : ys.Pairwise (· ≤ ·)) : ys = sortI l :=
  List.Perm.eq_of_pairwise (le := fun a b : Int => a ≤ b) (fun a b _ _ h h' => by omega) h2 (sortI_sorted l) (h1.trans (sortI_perm l).symm)
/-- pairs by their order -/
def leQ (a b : Int × Int) : Prop := a.1 < b.1 ∨ (a.1 = b.1 ∧ a.2 ≤ b.2)
instance (a b : Int × Int) : Decidable (leQ a b) := by unfold leQ; infer_instance
def sortP (l : PL) : PL := l.mergeSort (fun a b => decide (leQ a b))
theorem sortP_perm (l : PL) : (sortP l).Perm l := List.mergeSort_perm _ _
theorem leQ_tr (a b c : Int × Int) (h1 : decide (leQ a b) = true) (h2 : decide (leQ b c) = true) : decide (leQ a c) = true := by
  have h1 := of_decide_eq_true h1
  have h2 := of_decide_eq_true h2
  refine decide_eq_true ?_
  unfold leQ at *
  omega
theorem leQ_tot (a b : Int × Int) : (decide (leQ a b) || decide (leQ b a)) = true := by
  by_cases h : leQ a b
  · rw [decide_eq_true h]; rfl
  · have h' : leQ b a := by
      unfold leQ at *
      omega
    rw [decide_eq_true h', Bool.or_true]
theorem sortP_sorted (l : PL) : (sortP l).Pairwise leQ := by
  have h := List.pairwise_mergeSort (le := fun a b : Int × Int => decide (leQ a b)) leQ_tr leQ_tot l
  exact h.imp fun h => of_decide_eq_true h
theorem leQ_anti {a b : Int × Int} (h : leQ a b) (h' : leQ b a) : a = b := by
  unfold leQ at h h'
  apply Prod.ext <;> omega
theorem sortP_unique {l ys : PL} (h1 : ys.Perm l) (h2 : ys.Pairwise leQ) : ys = sortP l :=
  List.Perm.eq_of_pairwise (fun a b _ _ h h' => leQ_anti h h') h2 (sortP_sorted l) (h1.trans (sortP_perm l).symm)
/-! ### polynomials -/
def gstep (d : PL) (t : Int × Int) : PL := dp d t.1 ((dv d t.1).getD 0 + t.2)
def gdict (ts : PL) : PL := ts.foldl gstep []
def gfin (d : PL) (ks : List Int) : PL := (ks.map fun k => (k, (dv d k).getD 0)).filter fun p => decide (p.2 ≠ 0)
def gathered (ts : PL) : PL := gfin (gdict ts) (sortI ((gdict ts).map (·.1)))
def plus (a b : PL) : PL := gathered (a ++ b)
def times (a b : PL) : PL := gathered (a.flatMap fun p => b.map fun q => (p.1 + q.1, p.2 * q.2))
def lifted (a : PL) (m : Int) : PL := a.map fun p => (p.1 + m, p.2)
def pRING : PL := [(-2, -1), (2, -1)]
def pONE : PL := [(0, 1)]
def withRings (t : PL) : Nat → PL
  | 0 => t
  | n + 1 => times (withRings t n) pRING
/-! ### strands -/
def strung (s : PL) (a b : Int) : PL × Nat :=
  if a = b then (s, 1) else
    let first := (dv s a).getD a
    let last := (dv (dd s a) b).getD b
    if first = b then (dd (dd s a) b, 1) else (dp (dp (dd (dd s a) b) first last) last first, 0)
def joins (way : Nat) : List (Nat × Nat) := if way = 0 then [(0, 1), (2, 3)] else [(0, 3), (1, 2)]
def openStep (c : List Int) (r : PL × Nat) (ij : Nat × Nat) : PL × Nat :=
  let q := strung r.1 (c.getD ij.1 0) (c.getD ij.2 0)
  (q.1, r.2 + q.2)
def openedAt (s : PL) (c : List Int) (way : Nat) : PL × Nat := (joins way).foldl (openStep c) (s, 0)
def strandsOf (J : PL) : PL := J.foldl (fun s p => dp (dp s p.1 p.2) p.2 p.1) []
def openJoin (s : PL) : PL := sortP (s.filter fun p => decide (p.1 < p.2))
def joinRow (ends : List Int) (s : PL) (i : Nat) : PL :=
  ((List.range' (i + 1) (ends.length - (i + 1)) : List Nat).filter fun (j : Nat) => decide (ends.getD j 0 = (dv s (ends.getD i 0)).getD (ends.getD i 0))).map fun (j : Nat) => ((i : Int), (j : Int))
def joiningOf (ends : List Int) (s : PL) : PL := (List.range ends.length).flatMap (joinRow ends s)
/-! ### sums: from joinings to polynomials -/
def sgt (kvs : List (PL × PL)) (J : PL) : Option PL := (kvs.find? fun kv => decide (kv.1 = J)).map (·.2)
def sput (kvs : List (PL × PL)) (J t : PL) : List (PL × PL) :=
  if (sgt kvs J).isSome = true then kvs.map (fun kv => if kv.1 = J then (kv.1, t) else kv) else kvs ++ [(J, t)]
def putTo (f : List (PL × PL)) (J t : PL) : List (PL × PL) := sput f J (plus ((sgt f J).getD []) t)
def noNoughts (f : List (PL × PL)) : List (PL × PL) := f.foldl (fun g kv => if kv.2 ≠ [] then sput g kv.1 kv.2 else g) []
def behindStep (c : List Int) (e : PL × PL) (f : List (PL × PL)) (way : Nat) : List (PL × PL) :=
  putTo f (openJoin (openedAt (strandsOf e.1) c way).1) (withRings (lifted e.2 (1 - 2 * (way : Int))) (openedAt (strandsOf e.1) c way).2)
def behind (c : List Int) (f : List (PL × PL)) (e : PL × PL) : List (PL × PL) := behindStep c e (behindStep c e f 0) 1
def storeBehind (st : List (PL × PL)) (c : List Int) : List (PL × PL) := noNoughts (st.foldl (behind c) [])
/-- the stores behind the crossings ks, one after another -/
def storesOf (cs : List (List Int)) : List (PL × PL) → List Nat → List (List (PL × PL))
  | _, [] => []
  | st, k :: ks => storeBehind st (cs.getD k []) :: storesOf cs (storeBehind st (cs.getD k [])) ks
def store0 : List (PL × PL) := [([], pONE)]
def lastStore (cs : List (List Int)) (ks : List Nat) : List (PL × PL) := ks.foldl (fun st k => storeBehind st (cs.getD k [])) store0
def sumsStep (ends : List Int) (rings : Nat) (f : List (PL × PL)) (e : PL × PL) : List (PL × PL) := putTo f (joiningOf ends (strandsOf e.1)) (withRings e.2 rings)
def sumsOf (st : List (PL × PL)) (ends : List Int) (rings : Nat) : List (PL × PL) := noNoughts (st.foldl (sumsStep ends rings) [])
/-! ### the order of taking -/
def openB (arcs c : List Int) : List Int := c.foldl (fun f a => if a ∈ f then f.filter (fun x => decide (x ≠ a)) else f ++ [a]) arcs
/-- the next crossing taken is one behind which the fewest arcs are open, of several the least -/
def Best (cs : List (List Int)) (arcs : List Int) (left : List Nat) (k : Nat) : Prop :=
  k ∈ left ∧ ∀ j ∈ left, (openB arcs (cs.getD k [])).length < (openB arcs (cs.getD j [])).length ∨ ((openB arcs (cs.getD k [])).length = (openB arcs (cs.getD j [])).length ∧ k ≤ j)
inductive Tak (cs : List (List Int)) : List Int → List Nat → List (Nat × List Int) → Prop
  | nil (arcs) : Tak cs arcs [] []
  | cons {arcs left k rest} : Best cs arcs left k → Tak cs (openB arcs (cs.getD k [])) (left.erase k) rest → Tak cs arcs left ((k, openB arcs (cs.getD k [])) :: rest)
end TH
end
section
set_option Elab.async false
set_option linter.all false
set_option maxRecDepth 100000
set_option maxHeartbeats 4000000
/-! Tanglehouse: data of pairs, dicts whose keys are tuples of pairs. -/
namespace TH
open PySem PySem.Spec PyProof.Rows L2
/-- polynomials and joinings alike: tuples of pairs of whole numbers -/
def nkp (p : Int × Int) : NestedKey := .tup [.num p.1, .num p.2]
def nk (ps : PL) : NestedKey := .tup (ps.map nkp)
theorem nkp_inj {a b : Int × Int} (h : nkp a = nkp b) : a = b := by
  unfold nkp at h
  injection h with h
  injection h with h1 h2
  injection h2 with h2 _
  injection h1 with h1
  injection h2 with h2
  exact Prod.ext h1 h2
theorem nks_inj : ∀ {a b : PL}, a.map nkp = b.map nkp → a = b
  | [], [], _ => rfl
  | [], _ :: _, h => nomatch h
  | _ :: _, [], h => nomatch h
  | x :: xs, y :: ys, h => by
    rw [List.map_cons, List.map_cons] at h
    injection h with h1 h2
    rw [nkp_inj h1, nks_inj h2]
theorem nk_inj {a b : PL} (h : nk a = nk b) : a = b := by
  unfold nk at h
  injection h with h
  exact nks_inj h
theorem nks_depth : ∀ ps : PL, NestedKey.depthAll (ps.map nkp) ≤ 1
  | [] => by
    show NestedKey.depthAll [] ≤ 1
    rw [NestedKey.depthAll]
    decide
  | p :: ps => by
    rw [List.map_cons, NestedKey.depthAll]
    have h1 : (nkp p).depth = 1 := by
      unfold nkp
      simp [NestedKey.depth, NestedKey.depthAll]
    have h2 := nks_depth ps
    rw [h1]
    exact Nat.max_le.mpr ⟨Nat.le_refl _, h2⟩
theorem nk_depth (ps : PL) : (nk ps).depth ≤ 8 := by
  have h := nks_depth ps
  unfold nk
  rw [NestedKey.depth]
  omega
theorem nk_dec (a b : PL) : decide (nk a = nk b) = decide (a = b) := by
  by_cases h : a = b
  · rw [h, decide_eq_true rfl, decide_eq_true rfl]
  · rw [decide_eq_false h, decide_eq_false fun e => h (nk_inj e)]
def plKind (prog : Program) (w : World) : HeapKind prog w PL where
  is := fun h ps a => NestedIs h (nk ps) (.ref a)
  hash := fun ps => (nk ps).hash w
  draws := fun ps => (nk ps).draws
  room := fun A => A.units + 8 < cLine
  inj := fun hx hy => nk_inj (NestedIs.inj _ _ _ hx hy)
  keeps := fun {h h' k a d o es ep} x ho hd hs => ((nestedKind prog w).keeps (k := nk k) (a := a) (d := d) ⟨x, nk_depth k⟩ ho hd hs).1
  pyHash := fun {A E s k a Q} hu hk h => (nestedKind prog w).pyHash (k := nk k) hu ⟨hk, nk_depth k⟩ h
  eqBool := fun {A E s x y a b Q} hu hx hy h => (nestedKind prog w).eqBool (x := nk x) (y := nk y) hu ⟨hx, nk_depth x⟩ ⟨hy, nk_depth y⟩ (by rw [nk_dec]; exact h)
  quiet := fun {A E s k a Q} hk h => (nestedKind prog w).quiet (k := nk k) ⟨hk, nk_depth k⟩ h
theorem plKind_stays {prog : Program} {w : World} : (plKind prog w).Stays where
  stays := fun hk x => NestedIs.at hk _ _ x
  tuple := fun {s k a} x => by
    have x' : NestedIs s.heap (.tup (k.map nkp)) (.ref a) := x
    cases x' with
    | tup h1 h2 _ _ => exact ⟨_, h1, h2⟩
/-! ### tuples that stand for good -/
def Tp (K : PySem.W.Frag) (H : Hp) (a : Addr) (xs : List V) : Prop :=
  H a = some (.tup xs) ∨ ∃ (o : Obj) (its : Array Value) (n : Nat), K.lookup a = some o ∧ o.cls = .type "tuple" ∧ o.data = .seq its n ∧ its.size ≤ sizeLine ∧ Vals xs its.toList
/-- all tuples stay -/
def TK (H H' : Hp) : Prop := ∀ b xs, H b = some (.tup xs) → H' b = some (.tup xs)
theorem TK.refl (H : Hp) : TK H H := fun _ _ h => h
theorem TK.trans {H H1 H2 : Hp} (a : TK H H1) (b : TK H1 H2) : TK H H2 := fun c o h => b c o (a c o h)
theorem TK.same {H H' : Hp} (h : Same H H') : TK H H' := fun b xs e => h b _ e
theorem TK.new {H : Hp} {p : Addr} {o : HO} (h : H p = none) : TK H (upd H p o) := fun b xs e => by rw [upd_ne (ne_of_none e h)]; exact e
theorem TK.put {H : Hp} {p : Addr} {o u : HO} (h : H p = some u) (hn : ∀ xs, u ≠ .tup xs) : TK H (upd H p o) := fun b xs e => by
  rw [upd_ne (fun z => by rw [z, h] at e; exact hn xs (Option.some.inj e))]; exact e
section
variable {K : PySem.W.Frag} {H H' : Hp} {a : Addr} {xs ys : List V}
theorem Tp.sq (h : Tp K H a xs) : SqT K H a xs := by
  rcases h with h | h
  · exact .inl (.inl h)
  · exact .inr h
theorem Tp.tk (h : Tp K H a xs) (t : TK H H') : Tp K H' a xs := by
  rcases h with h | h
  · exact .inl (t _ _ h)
  · exact .inr h
theorem Tp.of (h : H a = some (.tup xs)) : Tp K H a xs := .inl h
end
def Pr (K : PySem.W.Frag) (H : Hp) (v : V) (p : Int × Int) : Prop := ∃ t, v = .ref t ∧ Tp K H t [.int p.1, .int p.2]
abbrev Prs (K : PySem.W.Frag) (H : Hp) : List V → PL → Prop := Paired (Pr K H)
def Pl (K : PySem.W.Frag) (H : Hp) (v : V) (ps : PL) : Prop := ∃ t vs, v = .ref t ∧ Tp K H t vs ∧ Prs K H vs ps
section
variable {K : PySem.W.Frag} {H H' : Hp}
theorem Pr.tk {v : V} {p : Int × Int} (h : Pr K H v p) (t : TK H H') : Pr K H' v p := let ⟨a, e, q⟩ := h; ⟨a, e, q.tk t⟩
theorem Prs.tk {vs : List V} {ps : PL} (h : Prs K H vs ps) (t : TK H H') : Prs K H' vs ps := Paired.mapP h fun _ _ z => z.tk t
theorem Pl.tk {v : V} {ps : PL} (h : Pl K H v ps) (t : TK H H') : Pl K H' v ps := let ⟨a, vs, e, q, r⟩ := h; ⟨a, vs, e, q.tk t, r.tk t⟩
end
theorem Paired.app {α β : Type} {G : α → β → Prop} {a1 a2 : List α} {b1 b2 : List β} (h : Paired G a1 b1) (h' : Paired G a2 b2) : Paired G (a1 ++ a2) (b1 ++ b2) := by
  induction h with
  | nil => exact h'
  | cons r t ih => exact .cons r ih
theorem Paired.len {α β : Type} {G : α → β → Prop} {l1 : List α} {l2 : List β} (h : Paired G l1 l2) : l1.length = l2.length := PySem.Paired.length h
section
variable {X : Cx} {pins : List (Addr × Obj)} {σ : L2.St} {H : Hp} {s : Shared}
theorem pr_is (I : Inv X pins σ H s) {v : V} {u : Value} {p : Int × Int} (h : Pr X.K H v p) (r : RelV v u) : NestedIs s.heap (nkp p) u := by
  obtain ⟨t, rfl, ht⟩ := h
  cases r
  obtain ⟨its, rv, ⟨o, h1, h2, n, h3⟩, _⟩ := I.tuple ht.sq
  obtain ⟨u1, u2, rfl, r1, r2⟩ := vals2 rv
  obtain ⟨t1, rfl⟩ := r1
  obtain ⟨t2, rfl⟩ := r2
  exact .tup h1 h2 h3 (.cons (.int _ _) (.cons (.int _ _) .nil))
theorem prs_is (I : Inv X pins σ H s) : ∀ {vs : List V} {us : List Value} {ps : PL}, Prs X.K H vs ps → Vals vs us → NestedAll s.heap (ps.map nkp) us
  | _, _, _, .nil, .nil => .nil
  | _, _, _, .cons h t, .cons r q => .cons (pr_is I h r) (prs_is I t q)
theorem pl_is (I : Inv X pins σ H s) {a : Addr} {ps : PL} (h : Pl X.K H (.ref a) ps) : (plKind X.prog X.w).is s.heap ps a := by
  obtain ⟨t, vs, e, ht, hp⟩ := h
  cases e
  obtain ⟨its, rv, ⟨o, h1, h2, n, h3⟩, _⟩ := I.tuple ht.sq
  exact .tup h1 h2 h3 (by simpa using prs_is I hp rv)
theorem pl_ref {K : PySem.W.Frag} {v : V} {ps : PL} (h : Pl K H v ps) : ∃ a, v = .ref a := let ⟨a, _, e, _⟩ := h; ⟨a, e⟩
end
/-! ### a dict from tuples of pairs to tuples of pairs -/
abbrev SX := List (PL × Addr × Addr)
def vx (xs : SX) : List (PL × Addr × Value) := xs.map fun x => (x.1, x.2.1, Value.ref x.2.2)
def SDok (P : Program) (w : World) (d : Addr) (xs : SX) (h : Heap) : Prop :=
  xs.length ≤ sizeLine ∧ (d == sysModules) = false ∧ ∃ o es ep, h.get? d = some o ∧ o.ExactDict ∧ o.data = .dict es ep ∧ es.toList = (vx xs).map (entryOfKey (plKind P w)) ∧ (xs.map (·.1)).Nodup
def SD (P : Program) (w : World) (d : Addr) (xs : SX) : HO := .ext (SDok P w d xs)
theorem sd_ok {P : Program} {w : World} {H : Hp} {h : Heap} {d : Addr} {xs : SX} (x : SDok P w d xs h) : ObjOk P w H h d (SD P w d xs) :=
  ⟨x, let ⟨_, _, o, _, _, e, _⟩ := x; ⟨o, e⟩, fun _ _ ⟨z, y, o, es, ep, e, r⟩ k => ⟨z, y, o, es, ep, k o e, r⟩⟩
/-- what the entries are -/
def SXr (K : PySem.W.Frag) (H : Hp) (xs : SX) (kvs : List (PL × PL)) : Prop := Paired (fun x kv => x.1 = kv.1 ∧ Pl K H (.ref x.2.1) kv.1 ∧ Pl K H (.ref x.2.2) kv.2) xs kvs
def SmR (P : Program) (w : World) (K : PySem.W.Frag) (H : Hp) (d : Addr) (kvs : List (PL × PL)) : Prop := ∃ xs, Rd H d (SD P w d xs) ∧ SXr K H xs kvs
def Sm (P : Program) (w : World) (K : PySem.W.Frag) (H : Hp) (d : Addr) (kvs : List (PL × PL)) : Prop := ∃ xs, H d = some (SD P w d xs) ∧ SXr K H xs kvs
theorem Sm.r {P : Program} {w : World} {K : PySem.W.Frag} {H : Hp} {d : Addr} {kvs : List (PL × PL)} (h : Sm P w K H d kvs) : SmR P w K H d kvs := let ⟨xs, e, r⟩ := h; ⟨xs, .inl e, r⟩
theorem SXr.tk {K : PySem.W.Frag} {H H' : Hp} {xs : SX} {kvs : List (PL × PL)} (h : SXr K H xs kvs) (t : TK H H') : SXr K H' xs kvs := Paired.mapP h fun _ _ z => ⟨z.1, z.2.1.tk t, z.2.2.tk t⟩
theorem Sm.tk {P : Program} {w : World} {K : PySem.W.Frag} {H H' : Hp} {d : Addr} {kvs : List (PL × PL)} (h : Sm P w K H d kvs) (t : TK H H') (e : ∀ o, H d = some o → H' d = some o) : Sm P w K H' d kvs := let ⟨xs, q, r⟩ := h; ⟨xs, e _ q, r.tk t⟩
section
variable {X : Cx} {pins : List (Addr × Obj)} {σ : L2.St} {H : Hp} {s : Shared} {d : Addr} {kvs : List (PL × PL)} {xs : SX}
theorem sxr_is (I : Inv X pins σ H s) {xs : SX} {kvs : List (PL × PL)} (h : SXr X.K H xs kvs) : ∀ x ∈ vx xs, (plKind X.prog X.w).is s.heap x.1 x.2.1 := by
  unfold SXr at h
  induction h with
  | nil => intro x hx; exact nomatch hx
  | @cons p q ps qs hq t ih =>
    intro x hx
    have hx' : x ∈ (p.1, p.2.1, Value.ref p.2.2) :: vx ps := hx
    rcases List.mem_cons.mp hx' with e | hx'
    · subst e
      show (plKind X.prog X.w).is s.heap p.1 p.2.1
      rw [hq.1]
      exact pl_is I hq.2.1
    · exact ih x hx'
theorem vx_keys (xs : SX) : (vx xs).map (·.1) = xs.map (·.1) := by
  unfold vx
  rw [List.map_map]
  rfl
theorem vx_len (xs : SX) : (vx xs).length = xs.length := by unfold vx; rw [List.length_map]
theorem sd_rd (I : Inv X pins σ H s) (h : Rd H d (SD X.prog X.w d xs)) : SDok X.prog X.w d xs s.heap := by
  have q := rd_of I.hok h
  exact (show ObjOk X.prog X.w H s.heap d (SD X.prog X.w d xs) from q).1
theorem sd_dict (I : Inv X pins σ H s) (h : Rd H d (SD X.prog X.w d xs)) (r : SXr X.K H xs kvs) : xs.length ≤ sizeLine ∧ (d == sysModules) = false ∧ s.heap.DictOfH (plKind X.prog X.w) d (vx xs) := by
  obtain ⟨z, y, o, es, ep, h1, h2, h3, h4, h5⟩ := sd_rd I h
  exact ⟨z, y, o, es, ep, h1, h2, h3, h4, sxr_is I r, by rw [vx_keys]; exact h5⟩
end
end TH
end
section
set_option Elab.async false
set_option linter.all false
set_option maxRecDepth 100000
set_option maxHeartbeats 4000000
namespace TH
open PySem PySem.Spec PyProof.Rows L2
def xput (xs : SX) (J : PL) (a q : Addr) : SX :=
  if (atKey (vx xs) J).isSome = true then xs.map (fun x => if x.1 = J then (x.1, x.2.1, q) else x) else xs ++ [(J, a, q)]
theorem vx_put (xs : SX) (J : PL) (a q : Addr) : storedH (vx xs) J a (.ref q) = vx (xput xs J a q) := by
  unfold storedH xput
  by_cases h : (atKey (vx xs) J).isSome = true
  · rw [if_pos h, if_pos h]
    unfold vx
    rw [List.map_map, List.map_map]
    refine List.map_congr_left fun x _ => ?_
    show putAt J (Value.ref q) (x.1, x.2.1, Value.ref x.2.2) = _
    unfold putAt
    by_cases e : x.1 = J
    · rw [if_pos (show (x.1, x.2.1, Value.ref x.2.2).1 = J from e)]
      show _ = _
      simp only [Function.comp, if_pos e]
    · rw [if_neg (show ¬ (x.1, x.2.1, Value.ref x.2.2).1 = J from e)]
      simp only [Function.comp, if_neg e]
  · rw [if_neg h, if_neg h]
    unfold vx
    rw [List.map_append]
    rfl
theorem atKey_cons (x : PL × Addr × Addr) (xs : SX) (J : PL) : atKey (vx (x :: xs)) J = if x.1 = J then some (x.2.1, .ref x.2.2) else atKey (vx xs) J := by
  show atKey ((x.1, x.2.1, Value.ref x.2.2) :: vx xs) J = _
  unfold atKey
  by_cases e : x.1 = J
  · rw [if_pos e]
    simp [List.find?_cons, e]
  · rw [if_neg e]
    simp [List.find?_cons, e]
theorem sgt_cons (x : PL × PL) (xs : List (PL × PL)) (J : PL) : sgt (x :: xs) J = if x.1 = J then some x.2 else sgt xs J := by
  unfold sgt
  by_cases e : x.1 = J
  · rw [if_pos e]
    simp [List.find?_cons, e]
  · rw [if_neg e]
    simp [List.find?_cons, e]
section
variable {K : PySem.W.Frag} {H : Hp}
theorem SXr.at {J : PL} : ∀ {xs : SX} {kvs : List (PL × PL)}, SXr K H xs kvs → (atKey (vx xs) J = none ∧ sgt kvs J = none) ∨ ∃ a q t, atKey (vx xs) J = some (a, .ref q) ∧ sgt kvs J = some t ∧ Pl K H (.ref q) t
  | _, _, .nil => .inl ⟨rfl, rfl⟩
  | _, _, .cons (a := x) (b := kv) h t => by
    rw [atKey_cons, sgt_cons]
    by_cases e : x.1 = J
    · rw [if_pos e, if_pos (h.1.symm.trans e)]
      exact .inr ⟨_, _, _, rfl, rfl, h.2.2⟩
    · rw [if_neg e, if_neg fun z => e (h.1.trans z)]
      exact SXr.at t
theorem SXr.put {J t : PL} {a q : Addr} {xs : SX} {kvs : List (PL × PL)} (h : SXr K H xs kvs) (hk : Pl K H (.ref a) J) (hv : Pl K H (.ref q) t) : SXr K H (xput xs J a q) (sput kvs J t) := by
  have e : (atKey (vx xs) J).isSome = (sgt kvs J).isSome := by
    rcases h.at (J := J) with ⟨h1, h2⟩ | ⟨_, _, _, h1, h2, _⟩
    · rw [h1, h2] <;> rfl
    · rw [h1, h2] <;> rfl
  unfold xput sput
  rw [e]
  by_cases c : (sgt kvs J).isSome = true
  · rw [if_pos c, if_pos c]
    clear e c
    unfold SXr at h ⊢
    induction h with
    | nil => exact .nil
    | @cons p r ps rs hp ht ih =>
      rw [List.map_cons, List.map_cons]
      refine .cons ?_ ih
      by_cases z : p.1 = J
      · rw [if_pos z, if_pos (hp.1.symm.trans z)]
        exact ⟨hp.1, hp.2.1, hv⟩
      · rw [if_neg z, if_neg fun y => z (hp.1.trans y)]
        exact hp
  · rw [if_neg c, if_neg c]
    exact Paired.app h (.cons ⟨rfl, hk, hv⟩ .nil)
end
theorem sput_len (kvs : List (PL × PL)) (J t : PL) : (sput kvs J t).length ≤ kvs.length + 1 := by
  unfold sput
  split
  · rw [List.length_map]; omega
  · rw [List.length_append]; exact Nat.le_refl _
theorem xput_len (xs : SX) (J : PL) (a q : Addr) : (xput xs J a q).length ≤ xs.length + 1 := by
  unfold xput
  split
  · rw [List.length_map]; omega
  · rw [List.length_append]; exact Nat.le_refl _
section
variable {X : Cx} {pins : List (Addr × Obj)} {σ : L2.St} {H : Hp} {s : Shared} {d : Addr} {kvs : List (PL × PL)} {xs : SX} {A : Around} {E : Value → Shared → Prop}
theorem sd_of (hz : xs.length ≤ sizeLine) (hd : (d == sysModules) = false) {h' : Heap} (m : h'.DictOfH (plKind X.prog X.w) d (vx xs)) : SDok X.prog X.w d xs h' := by
  obtain ⟨o, es, ep, h1, h2, h3, h4, h5, h6⟩ := m
  exact ⟨hz, hd, o, es, ep, h1, h2, h3, h4, by rw [← vx_keys]; exact h6⟩
theorem sd_new (I : Inv X pins σ H s) {h' : Heap} {tk : Nat} (hz : xs.length ≤ sizeLine) (m : h'.DictOfH (plKind X.prog X.w) s.heap.objs.size (vx xs)) (k : ∀ b o, s.heap.get? b = some o → h'.get? b = some o) :
    Inv X pins σ (upd H s.heap.objs.size (SD X.prog X.w s.heap.objs.size xs)) { s with heap := h', toks := tk } :=
  I.laid (t' := tk) k (Nat.le_refl _) (sd_ok (sd_of hz (beq_eq_false_iff_ne.mpr (Nat.ne_of_gt I.big)) m))
theorem sd_write (I : Inv X pins σ H s) (h : H d = some (SD X.prog X.w d xs)) {ys : SX} {h' : Heap} {tk : Nat} (hz : ys.length ≤ sizeLine) (m : h'.DictOfH (plKind X.prog X.w) d (vx ys)) (sb : Heap.SameBut d s.heap h') :
    Inv X pins σ (upd H d (SD X.prog X.w d ys)) { s with heap := h', toks := tk } := by
  have hd := (sd_rd I (.inl h)).2.1
  have he : ∃ q, h'.get? d = some q := let ⟨q, _, _, hq, _⟩ := m; ⟨q, hq⟩
  exact I.write (x := d) (e := d) (t' := tk) (by rw [h]; exact True.intro) (.inl rfl) (fun b u hb q => (sb.2 b hb).trans q) he (sd_ok (sd_of hz hd m))
/-! ### {} -/
def tSNew (P : Program) (w : World) : TE := fun _ H Q => ∀ p, H p = none → Q (.ref p) (upd H p (SD P w p []))
theorem pe_snew {pos : Pos} : PE X (.Dict [] [] pos) (tSNew X.prog X.w) := ⟨fun pins s σ H Q I h =>
  wpAny_Dict_empty ⟨.ref s.heap.objs.size, _, sd_new (tk := s.toks) I (Nat.zero_le _) (Heap.DictOfH.new s.heap) (fun _ _ q => Heap.get?_push_of_some _ q), rfl, h _ (I.hok.fresh (Nat.le_refl _))⟩⟩
/-! ### d.get(J, x), d[J] = t -/
def tSGet (P : Program) (w : World) (K : PySem.W.Frag) (td ty tx : TE) : TE := fun σ H Q => td σ H fun x H1 => ∃ a kvs0, x = .ref a ∧ SmR P w K H1 a kvs0 ∧ ty σ H1 fun y H2 => tx σ H2 fun z H3 =>
  ∃ kvs J, SmR P w K H3 a kvs ∧ Pl K H3 y J ∧ (∀ t v, sgt kvs J = some t → Pl K H3 v t → Q v H3) ∧ (sgt kvs J = none → Q z H3)
theorem room8 {A : Around} (hu : A.units + 64 < cLine) : A.units + 8 < cLine := by omega
theorem pe_sget {o e f : Expr} {apos cpos : Pos} {td ty tx : TE} (hu : X.A.units + 64 < cLine) (ho : PE X o td) (he : PE X e ty) (hf : PE X f tx) (m : M2 X o "get" apos e f cpos) : PE X (.Call (.Attribute o "get" apos) [e, f] [] cpos) (tSGet X.prog X.w X.K td ty tx) := by
  refine ⟨fun pins s σ H Q I h => ?_⟩
  refine wpAny_Call_method m.base m.few m.line PySem.F.plainAttrs_dict PySem.F.slot_dict_get PySem.F.type_dict_get (thn (ho.run pins s σ H _ I h) fun u s1 ⟨x, H1, I1, rx, a, kvs0, ex, ⟨xs0, hd0, r0⟩, q1⟩ => ?_)
  subst ex
  obtain rfl : u = Value.ref a := rx
  obtain ⟨_, _, dd0⟩ := sd_dict I1 hd0 r0
  refine ⟨dd0.typeIs, fun b q => ?_, ?_⟩
  · cases q
    obtain ⟨ob, _, _, h1, h2, _⟩ := dd0
    exact ⟨ob, h1, h2.2.1⟩
  rw [m.trees]
  refine Calls.callWith_builtin rfl (Calls.evalArgs_plain (Calls.spliced_cons (thn (he.run pins s1 σ H1 _ I1 q1) fun iv s2 ⟨y, H2, I2, ry, q2⟩ =>
    Calls.spliced_cons (thn (hf.run pins s2 σ H2 _ I2 q2) fun fv s3 ⟨z, H3, I3, rz, kvs, J, ⟨xs, hd, r⟩, hJ, q3, q4⟩ => Calls.spliced_nil ?_))))
  obtain ⟨b, rfl⟩ := pl_ref hJ
  obtain rfl : iv = Value.ref b := ry
  obtain ⟨hz, hm, dd⟩ := sd_dict I3 hd r
  refine call_meetsIn PySem.F.slot_dict_get dd.typeIs PySem.F.entry_dict_get (PySem.F.args_dict_get_3 _ _ _) (meetsH_dict_get_default (plKind X.prog X.w) a b hm fv) ⟨by show X.A.units + 1 + 8 < cLine; omega, J, vx xs, pl_is I3 hJ, dd, ?_⟩
  rcases r.at (J := J) with ⟨h1, h2⟩ | ⟨a', q, t, h1, h2, h3⟩
  · rw [h1]
    exact ⟨z, H3, I3.tok _, rz, q4 h2⟩
  · rw [h1]
    exact ⟨.ref q, H3, I3.tok _, rfl, q3 t _ h2 h3⟩
def sSPut (P : Program) (w : World) (K : PySem.W.Frag) (td ty tv : TE) : TS := fun D σ H => tv σ H fun v H1 => td σ H1 fun x H2 => ty σ H2 fun y H3 =>
  ∃ a xs kvs J t, x = .ref a ∧ H3 a = some (SD P w a xs) ∧ SXr K H3 xs kvs ∧ kvs.length < sizeLine ∧ Pl K H3 y J ∧ Pl K H3 v t ∧ ∀ ys, SXr K (upd H3 a (SD P w a ys)) ys (sput kvs J t) → D.nx σ (upd H3 a (SD P w a ys))
theorem ps_sput {o i value : Expr} {pos' pos : Pos} {td ty tv : TE} (hu : X.A.units + 64 < cLine) (ho : PE X o td) (hi : PE X i ty) (hv : PE X value tv) (hs : swapsWith value (some (.Subscript o i pos')) pos.line X.env = pure false) :
    PS X (.Assign [.Subscript o i pos'] value pos) (sSPut X.prog X.w X.K td ty tv) := by
  refine ⟨fun pins s σ H D I h => ?_⟩
  refine wpAny_Assign_Subscript (thn (hv.run pins s σ H _ I h) fun r s1 ⟨v, H1, I1, rv, q1⟩ => thn (ho.run pins s1 σ H1 _ I1 q1) fun u s2 ⟨x, H2, I2, rx, q2⟩ => thn (hi.run pins s2 σ H2 _ I2 q2) fun iv s3 ⟨y, H3, I3, ry, a, xs, kvs, J, t, ex, hd, sx, hl, hJ, ht, q3⟩ => ?_) hs
  subst ex
  obtain rfl : u = Value.ref a := rx
  obtain ⟨b, rfl⟩ := pl_ref hJ
  obtain ⟨q, rfl⟩ := pl_ref ht
  obtain rfl : iv = Value.ref b := ry
  obtain rfl : r = Value.ref q := rv
  obtain ⟨hz, hm, dd⟩ := sd_dict I3 (.inl hd) sx
  have hl' : xs.length < sizeLine := by rw [show xs.length = kvs.length from Paired.len sx]; exact hl
  refine wpAny_setItem_heap (hsz := by rw [vx_len]; exact hz) (by show X.A.units + 1 + 8 < cLine; omega) (pl_is I3 hJ) dd fun h' hm' hs' => ?_
  rw [vx_put] at hm'
  refine ⟨σ, _, sd_write I3 hd (Nat.le_trans (xput_len xs J b q) hl') hm' hs', q3 _ ((sx.put hJ ht).tk (TK.put hd fun _ z => nomatch z))⟩
/-! ### len(d) -/
def rSLen (P : Program) (w : World) (K : PySem.W.Frag) : List V → Hp → VK → Prop := fun xs H Q => ∃ a kvs, xs = [.ref a] ∧ SmR P w K H a kvs ∧ Q (.int (kvs.length : Nat)) H
theorem cr_slen : CallR X (.builtin "len") (rSLen X.prog X.w X.K) := by
  intro pins s σ H xs us Q I r h
  obtain ⟨a, kvs, rfl, ⟨xs, hd, sx⟩, q⟩ := h
  obtain ⟨u, rfl, rx⟩ := vals1 r
  obtain rfl : u = .ref a := rx
  obtain ⟨hz, hm, dd⟩ := sd_dict I hd sx
  have hl : xs.length = kvs.length := Paired.len sx
  refine call_len_dictH hm dd (by rw [vx_len]; rw [sizeLine_eq] at hz; omega) ?_
  rw [vx_len, hl]
  exact ⟨.int (kvs.length : Nat), H, I.tok _, ⟨_, rfl⟩, q⟩
/-! ### isinstance(d, dict) -/
def rSIs (P : Program) (w : World) (K : PySem.W.Frag) : List V → Hp → VK → Prop := fun xs H Q => ∃ a kvs, xs = [.ref a, .ty "dict"] ∧ SmR P w K H a kvs ∧ Q (.bl true) H
theorem cr_sis : CallR X (.builtin "isinstance") (rSIs X.prog X.w X.K) := by
  intro pins s σ H xs us Q I r h
  obtain ⟨a, kvs, rfl, ⟨xs, hd, sx⟩, q⟩ := h
  obtain ⟨u1, u2, rfl, r1, r2⟩ := vals2 r
  obtain rfl : u1 = .ref a := r1
  obtain rfl : u2 = .type "dict" := r2
  obtain ⟨hz, hm, dd⟩ := sd_dict I hd sx
  obtain ⟨o, _, _, h1, h2, _⟩ := dd
  exact PySem.W.kia_one (K := X.K) PySem.W.kitx_dict I.kIn (show _ from ⟨o, h1, h2.1⟩) (kit_ty (K := X.K) (a := "dict") (b := "dict") (r := true) (by decide +kernel)) (fun z => nomatch z) fun tk => ⟨.bl true, H, I.tok tk, rfl, q⟩
end
end TH
end
section
set_option Elab.async false
set_option linter.all false
set_option maxRecDepth 100000
set_option maxHeartbeats 4000000
namespace PySem.W
open PySem PySem.Spec PyProof.Rows
section
variable {prog : Program} {w : World} {K : Type} [DecidableEq K] {knd : HeapKind prog w K} {A : Around} {E : Value → Shared → Prop} {s : Shared}
theorem th_call_dictH {o : Addr} {more : List (K × Addr × Value)} {Q : Value → Shared → Prop} (hu : knd.room A.in1.in1) (hoS : (o == sysModules) = false) (ho : s.heap.DictOfH knd o more) (hsz : more.length ≤ sizeLine)
    (his : ∀ h' : Heap, (∀ b o, s.heap.get? b = some o → h'.get? b = some o) → ∀ x ∈ more, knd.is h' x.1 x.2.1)
    (hap : (∀ x ∈ more, s.TypeIs (.ref x.2.1) "tuple") ∧ (more.map fun x => knd.hash x.1).Nodup)
    (h : ∀ h', h'.DictOfH knd s.heap.objs.size more → (∀ b o, s.heap.get? b = some o → h'.get? b = some o) → Q (.ref s.heap.objs.size) { s with heap := h' }) :
    wpAny (model prog w) A (call (.type "dict") [.ref o]) Q E s := by
  refine callType_codes (Q₁ := fun obj s₁ => obj = .ref s.heap.objs.size ∧ s₁ = { s with heap := s.heap.push { cls := .type "dict", data := .dict #[] } }) PySem.F.kt_called_dict (PySem.F.kt_typeCall_dict_1 _) PySem.F.entry_dict_init (kt_code_dict_new _ ⟨rfl, rfl⟩) ?_
  rintro obj s₁ ⟨rfl, rfl⟩
  have hnew : (s.heap.push { cls := .type "dict", data := .dict #[] }).DictOfH knd s.heap.objs.size [] := Heap.DictOfH.new s.heap
  have k0 : ∀ b o, s.heap.get? b = some o → (s.heap.push { cls := .type "dict", data := .dict #[] }).get? b = some o := fun b o e => Heap.get?_push_of_some _ e
  have ho' : (s.heap.push { cls := .type "dict", data := .dict #[] }).DictOfH knd o more := by
    obtain ⟨oo, es, ep, h1, h2, h3, h4, h5, h6⟩ := ho
    exact ⟨oo, es, ep, k0 _ _ h1, h2, h3, h4, his _ k0, h6⟩
  have hn : (more.map (·.1)).Nodup := ho.nodup
  have hlo : o < s.heap.objs.size := by
    obtain ⟨_, _, _, hg, _⟩ := ho
    exact Heap.lt_size hg
  have hdo : s.heap.objs.size ≠ o := Nat.ne_of_gt hlo
  refine ⟨hnew.typeIs, PySem.F.args_dict_init_2 _ _, ?_⟩
  unfold Builtin.«dict.__init__»
  refine wpAny_bind ?_
  unfold Builtin.Dict.selfAndRest
  refine wpAny_bind (wpAny_notOrdered_dict hnew.typeIs ?_)
  show wpAny _ _ (pure (s.heap.objs.size, [Value.ref o])) _ _ _
  refine wpAny_pure ?_
  show wpAny _ _ (Builtin.Dict.updateFrom "dict.__init__" s.heap.objs.size (.ref o) [] .none) _ _ _
  have hap' : (∀ x ∈ more, ({ s with heap := s.heap.push { cls := .type "dict", data := .dict #[] } } : Shared).TypeIs (.ref x.2.1) "tuple") := fun x hx => by
    obtain ⟨ob, e1, e2⟩ := hap.1 x hx
    exact ⟨ob, k0 _ _ e1, e2⟩
  refine updateFrom_dictH (knd := knd) (kvs := []) (more := more) (R := wants (fun r s₂ => r = .none ∧ Q (.ref s.heap.objs.size) s₂) E) .none hu hdo hoS hnew ho' (.inr ⟨hap', hap.2⟩) (by rw [List.length_nil, Nat.zero_add]; exact hsz) fun h' hd' _ hs' => ?_
  rw [storedAllH_nil_of_nodup more hn] at hd'
  exact ⟨rfl, h h' hd' fun b ob e => (hs'.2 b (Nat.ne_of_lt (Heap.lt_size e))).trans (k0 _ _ e)⟩
end
end PySem.W
namespace TH
open PySem PySem.Spec PyProof.Rows L2
section
variable {X : Cx}
/-! ### dict(d) -/
def hk (w : World) (J : PL) : Int := (nk J).hash w
def rSDict (P : Program) (w : World) (K : PySem.W.Frag) : List V → Hp → VK → Prop := fun vs H Q => ∃ a xs kvs, vs = [.ref a] ∧ Rd H a (SD P w a xs) ∧ SXr K H xs kvs ∧ (kvs.map fun kv => hk w kv.1).Nodup ∧ ∀ p, H p = none → Q (.ref p) (upd H p (SD P w p xs))
theorem sxr_keys {K : PySem.W.Frag} {H : Hp} {xs : SX} {kvs : List (PL × PL)} (h : SXr K H xs kvs) : xs.map (·.1) = kvs.map (·.1) := by
  unfold SXr at h
  induction h with
  | nil => rfl
  | cons r t ih => rw [List.map_cons, List.map_cons, ih, r.1]
theorem cr_sdict (hu : X.A.units + 64 < cLine) : CallR X (.type "dict") (rSDict X.prog X.w X.K) := by
  intro pins s σ H vs us Q I r h
  obtain ⟨a, xs, kvs, rfl, hd, sx, hn, q⟩ := h
  obtain ⟨u, rfl, rx⟩ := vals1 r
  obtain rfl : u = .ref a := rx
  obtain ⟨hz, hm, dd⟩ := sd_dict I hd sx
  have his := sxr_is I sx
  refine PySem.W.th_call_dictH (knd := plKind X.prog X.w) (by show X.A.units + 1 + 1 + 8 < cLine; omega) hm dd (by rw [vx_len]; exact hz) (fun h' hk x hx => plKind_stays.stays (fun b o vs n e _ => hk b o e) (his x hx))
    ⟨fun x hx => plKind_stays.tuple (his x hx), ?_⟩ fun h' hd' k => ⟨.ref s.heap.objs.size, _, sd_new (tk := s.toks) I hz hd' k, rfl, q _ (I.hok.fresh (Nat.le_refl _))⟩
  have e : ((vx xs).map fun x => (plKind X.prog X.w).hash x.1) = kvs.map fun kv => hk X.w kv.1 := by
    have e1 : ((vx xs).map fun x => (plKind X.prog X.w).hash x.1) = ((vx xs).map (·.1)).map (hk X.w) := by
      rw [List.map_map]
      rfl
    rw [e1, vx_keys, sxr_keys sx, List.map_map]
    rfl
  rw [e]
  exact hn
end
end TH
end
section
set_option Elab.async false
set_option linter.all false
set_option maxRecDepth 100000
set_option maxHeartbeats 4000000
namespace TH
open PySem PySem.Spec PyProof.Rows L2
/-! ### for J, t in d.items(), d locked -/
def ItS (P : Program) (w : World) (d : Addr) (o : Obj) (xs : SX) : It :=
  ⟨fun i H => H d = some (.frz o (SD P w d xs)) ∧ i < xs.length, fun i H x H' => ∃ T y, xs[i]? = some y ∧ x = .ref T ∧ H T = none ∧ H' = upd H T (.tup [.ref y.2.1, .ref y.2.2]), fun i H => H d = some (.frz o (SD P w d xs)) ∧ xs.length ≤ i⟩
section
variable {X : Cx} {pins : List (Addr × Obj)} {σ : L2.St} {H : Hp} {s : Shared} {d : Addr} {o : Obj} {xs : SX}
theorem sd_frz (I : Inv X pins σ H s) (h : H d = some (.frz o (SD X.prog X.w d xs))) :
    (d == sysModules) = false ∧ ∃ es ep, o.data = .dict es ep ∧ s.heap.DictRaw d es ep ∧ es.size = xs.length ∧ ∀ (i : Nat) y, xs[i]? = some y → ∃ en, es[i]? = some en ∧ en.key = .ref y.2.1 ∧ en.val = .ref y.2.2 := by
  obtain ⟨hd, _⟩ := (show ObjOk X.prog X.w H s.heap d (.frz o (SD X.prog X.w d xs)) from I.hok d _ h)
  obtain ⟨z, hm, o', es, ep, h1, h2, h3, h4, h5⟩ := sd_rd I (.inr ⟨o, h⟩)
  rw [hd] at h1
  cases h1
  refine ⟨hm, es, ep, h3, ⟨o, hd, h2, h3⟩, ?_, fun i y e => ?_⟩
  · rw [size_of_entries h4, vx_len]
  · have q := entry_at h4 i
    have e2 : (vx xs)[i]? = some (y.1, y.2.1, Value.ref y.2.2) := by
      unfold vx
      rw [List.getElem?_map, e]
      rfl
    rw [e2] at q
    exact ⟨_, q, rfl, rfl⟩
end
theorem turn_s {P : Program} {w : World} {K : PySem.W.Frag} {d : Addr} {o : Obj} {xs : SX} {es : Array DictEntry} {ep : Nat} {elts : List Expr} {kk : Nat} {tpos : Pos} (it : Addr) (hod : o.data = .dict es ep) (hsz : es.size = xs.length) :
    Turn P w K (.Tuple elts kk tpos) (ItS P w d o xs) [it] it (fun i h => ∃ ok ov, IsItemIter h it d i es.size ep ok ov) where
  mem := by simp
  obj := fun i h st b hb => by
    have e : b = it := by simpa using hb
    subst e
    obtain ⟨ok, ov, e⟩ := st
    exact ⟨_, e, fun v z => nomatch z⟩
  keep := fun i h h' st k => let ⟨ok, ov, e⟩ := st; ⟨ok, ov, k it (by simp) _ e⟩
  item := by
    intro X hP hw hK hc i pins s σ H E I hf st hg
    subst hP hw hK
    obtain ⟨hd, hi⟩ := hg
    obtain ⟨hm, es', ep', hdt, raw, hs, ent⟩ := sd_frz I hd
    obtain ⟨rfl, rfl⟩ := dict_ep hod hdt
    obtain ⟨y, hy⟩ : ∃ p, xs[i]? = some p := ⟨xs[i], List.getElem?_eq_getElem hi⟩
    obtain ⟨en, hen, e1, e2⟩ := ent i y hy
    obtain ⟨ok, ov, he⟩ := st
    have hlt : it < s.heap.objs.size := Heap.lt_size he
    have hi' : i < es'.size := by rw [hs]; exact hi
    have een : es'[i] = en := Option.some.inj ((Array.getElem?_eq_getElem hi').symm.trans hen)
    refine wpAny_pyNext_items_item_raw he raw hi' fun h' ho hT hz hk => ?_
    rw [een, e1, e2] at hT ho
    refine ⟨_, rfl, wpAny_letOwnedTupleGo_items (s := { s with heap := h' }) ho fun h'' he' sb => ?_⟩
    have hT2 : h''.get? s.heap.objs.size = some { cls := .type "tuple", data := .seq #[Value.ref y.2.1, Value.ref y.2.2] } := (sb.2 _ (Nat.ne_of_gt hlt)).trans hT
    have new : ObjOk X.prog X.w (upd H s.heap.objs.size (.tup [.ref y.2.1, .ref y.2.2])) h'' s.heap.objs.size (.tup [.ref y.2.1, .ref y.2.2]) :=
      ⟨by show 2 ≤ sizeLine; decide, [Value.ref y.2.1, Value.ref y.2.2], .cons rfl (.cons rfl .nil), ⟨_, hT2, rfl, _, rfl⟩⟩
    have I1 : Inv X pins σ (upd H s.heap.objs.size (.tup [.ref y.2.1, .ref y.2.2])) { s with heap := h'' } :=
      I.turnedNew (t' := s.toks) (ch := [it]) (fun b ob hb e => (sb.2 b (by simpa using hb)).trans (hk b ob (by simpa using hb) e)) hf (Nat.le_refl _) new
    refine ⟨.ref s.heap.objs.size, _, I1, rfl, ⟨_, y, hy, rfl, I.hok.fresh (Nat.le_refl _), rfl⟩, ⟨_, _, he'⟩, fun b hb => ?_⟩
    have e : b = it := by simpa using hb
    rw [e, upd_ne (Nat.ne_of_lt hlt)]
    exact (hf it (by simp)).1
  done := by
    intro X hP hw hK hc i pins s σ H E I hf st hg
    subst hP hw hK
    obtain ⟨hd, hi⟩ := hg
    obtain ⟨f0, f1, f2, f3, f4, f5⟩ := hf it (by simp)
    obtain ⟨hm, es', ep', hdt, raw, hs, ent⟩ := sd_frz I hd
    obtain ⟨rfl, rfl⟩ := dict_ep hod hdt
    obtain ⟨ok, ov, he⟩ := st
    exact wpAny_pyNext_items_end_raw (I.ok.hd hc) he raw (by rw [hs]; exact hi) fun h' eb => ⟨rfl, I.turned (t' := s.toks) (fun b ob hb e => eb b ob hb e) f0 f1 f3 f4 f5⟩
  self := fun A i s Q E st h => let ⟨_, _, e⟩ := st; PySem.W.kcp_self e h
def iSItems (P : Program) (w : World) (td : TE) : TI := fun σ H R => td σ H fun x H1 => ∃ d o xs, x = .ref d ∧ H1 d = some (.frz o (SD P w d xs)) ∧ R (ItS P w d o xs) H1
section
variable {X : Cx} {e : Expr} {td : TE} {apos cpos : Pos}
theorem pi_sitems {elts : List Expr} {kk : Nat} {tpos : Pos} (he : PE X e td) (hbase : attributeBase e "items" X.env (eval e X.env) = eval e X.env := by rfl) (hline : (apos.endLine == cpos.line) = true := by rfl) :
    PI X (.Tuple elts kk tpos) (.Call (.Attribute e "items" apos) [] [] cpos) (iSItems X.prog X.w td) := by
  refine ⟨fun pins s σ H R I h => ?_⟩
  refine wpAny_Call_method (T := "dict") (id := "dict.items") hbase rfl hline F.plainAttrs_dict F.slot_dict_items F.type_dict_items (thn (he.run pins s σ H _ I h) fun u s1 ⟨x, H1, I1, rx, d, o, xs, ex, hd, q⟩ => ?_)
  subst ex
  obtain rfl : u = Value.ref d := rx
  obtain ⟨hm, es, ep, hdt, raw, hs, ent⟩ := sd_frz I1 hd
  refine ⟨raw.typeIs, fun b q => ?_, ?_⟩
  · cases q
    obtain ⟨ob, h1, h2, _⟩ := raw
    exact ⟨ob, h1, h2.2.1⟩
  have I2 : Inv X pins σ H1 { s1 with heap := s1.heap.push { cls := .type "dict_items", data := .fields #[.ref d] } } := I1.kept (t' := s1.toks) fun b ob q => Heap.get?_push_of_some _ q
  have fin : wpAny (model X.prog X.w) X.A (pyIter (.ref s1.heap.objs.size)) (PIE X pins σ (.Tuple elts kk tpos) R) X.xe { s1 with heap := s1.heap.push { cls := .type "dict_items", data := .fields #[.ref d] } } := by
    refine wpAny_pyIter_items_raw (d := d) ⟨_, Heap.get?_push_size _ rfl, rfl, rfl⟩ (raw.push _) (pi_one (tk := s1.toks) I2 _ (turn_s _ hdt hs) ⟨.none, .none, ?_⟩ q)
    exact Heap.get?_push_size _ rfl
  show wpAny _ _ (callWith cpos (.builtin "dict.items") [.ref d] [] []) _ X.xe s1
  exact method_meetsIn F.slot_dict_items F.entry_dict_items rfl (PySem.evalArgs_none ⟨rfl, raw.typeIs, F.args_dict_items_1 _, _, meets_dict_items_raw d hm, ⟨es, ep, raw⟩, fin⟩)
end
/-- the loop over the items of a locked dict: what is asked turn by turn -/
theorem for_s {P : Program} {w : World} {d : Addr} {o : Obj} {xs : SX} {g : TG} {tb : TS} {D : Ends} {σ : L2.St} {H : Hp} (Pv : Nat → L2.St → Hp → Prop) (h0 : Pv 0 σ H) (hl : ∀ i σ H, i ≤ xs.length → Pv i σ H → H d = some (.frz o (SD P w d xs)))
    (hs : ∀ i y σ H T, xs[i]? = some y → Pv i σ H → H T = none → g (.ref T) σ (upd H T (.tup [.ref y.2.1, .ref y.2.2])) fun σ2 H2 => tb { D with nx := Pv (i + 1), ct := Pv (i + 1), bk := D.nx } σ2 H2) (hd : ∀ σ H, Pv xs.length σ H → D.nx σ H) :
    ∃ W : Nat → Nat → L2.St → Hp → Prop, (∃ m, W 0 m σ H) ∧ ∀ i m σ H, W i m σ H →
      ((ItS P w d o xs).stop i H ∧ D.nx σ H) ∨ ((ItS P w d o xs).go i H ∧ ∃ N : L2.St → Hp → Prop, (∀ σ' H', N σ' H' → ∃ m', m' < m ∧ W (i + 1) m' σ' H') ∧ ∀ x H', (ItS P w d o xs).yld i H x H' → g x σ H' fun σ2 H2 => tb { D with nx := N, ct := N, bk := D.nx } σ2 H2) := by
  refine ⟨fun i m σ H => m = xs.length - i ∧ i ≤ xs.length ∧ Pv i σ H, ⟨xs.length, by simp, Nat.zero_le _, h0⟩, ?_⟩
  rintro i m σ H ⟨rfl, hi, p⟩
  have q := hl i σ H hi p
  by_cases hlt : i < xs.length
  · refine .inr ⟨⟨q, hlt⟩, Pv (i + 1), fun σ' H' p' => ⟨xs.length - (i + 1), by omega, rfl, hlt, p'⟩, fun x H' y => ?_⟩
    obtain ⟨T, y, hy, rfl, hn, rfl⟩ := y
    exact hs i y σ H T hy p hn
  · have e : i = xs.length := by omega
    subst e
    exact .inl ⟨⟨q, Nat.le_refl _⟩, hd σ H p⟩
/-- the same in a comprehension -/
theorem lc_s {P : Program} {w : World} {d : Addr} {o : Obj} {xs : SX} {g : TG} {tt : TT} {te : TE} {vs : List Nat} {σ : L2.St} {H1 : Hp} {D : Addr} {Qd : Hp → Prop} (Pv : Nat → Hp → Prop) (h0 : Pv 0 (upd H1 D (.lst []))) (hl : ∀ i H, i ≤ xs.length → Pv i H → H d = some (.frz o (SD P w d xs)))
    (hs : ∀ i y H T, xs[i]? = some y → Pv i H → H T = none → g (.ref T) (wipe σ vs) (upd H T (.tup [.ref y.2.1, .ref y.2.2])) fun σ2 H2 => wipe σ2 vs = wipe σ vs ∧ tt σ2 H2 fun b H3 =>
      if b = true then te σ2 H3 fun y H4 => ∃ acc, H4 D = some (.lst acc) ∧ acc.length < sizeLine ∧ Pv (i + 1) (upd H4 D (.lst (acc ++ [y]))) else Pv (i + 1) H3) (hd : ∀ H, Pv xs.length H → Qd H) :
    ∃ W : Nat → Nat → Hp → Prop, (∃ m, W 0 m (upd H1 D (.lst []))) ∧ ∀ i m H, W i m H →
      ((ItS P w d o xs).stop i H ∧ Qd H) ∨ ((ItS P w d o xs).go i H ∧ ∃ Nx : Hp → Prop, (∀ H', Nx H' → ∃ m', m' < m ∧ W (i + 1) m' H') ∧ ∀ x H', (ItS P w d o xs).yld i H x H' → g x (wipe σ vs) H' fun σ2 H2 => wipe σ2 vs = wipe σ vs ∧ tt σ2 H2 fun b H3 =>
        if b = true then te σ2 H3 fun y H4 => ∃ acc, H4 D = some (.lst acc) ∧ acc.length < sizeLine ∧ Nx (upd H4 D (.lst (acc ++ [y]))) else Nx H3) := by
  refine ⟨fun i m H => m = xs.length - i ∧ i ≤ xs.length ∧ Pv i H, ⟨xs.length, by simp, Nat.zero_le _, h0⟩, ?_⟩
  rintro i m H ⟨rfl, hi, p⟩
  have q := hl i H hi p
  by_cases hlt : i < xs.length
  · refine .inr ⟨⟨q, hlt⟩, Pv (i + 1), fun H' p' => ⟨xs.length - (i + 1), by omega, rfl, hlt, p'⟩, fun x H' y => ?_⟩
    obtain ⟨T, y, hy, rfl, hn, rfl⟩ := y
    exact hs i y H T hy p hn
  · have e : i = xs.length := by omega
    subst e
    exact .inl ⟨⟨q, Nat.le_refl _⟩, hd H p⟩
/-! ### {J: t} of one pair -/
theorem th_Dict_pairsH {prog : Program} {w : World} {K : Type} [DecidableEq K] {knd : HeapKind prog w K} {A : Around} {E : Value → Shared → Prop} {s : Shared} {env : Env} {keys : List (Option Expr)} {values : List Expr} {pos : Pos} {pairs : List (Sem Value × Sem Value)} {Q : Value → Shared → Prop} (hu : knd.room A)
    (hshape : (evalEachOpt keys env).zip ((evalEach values env).map fun v => do let x ← v; standAt pos; pure x) = pairs.map fun p => (some p.1, p.2)) (h0 : pairs ≠ []) (hlen : pairs.length ≤ 15)
    (h : wpAny (model prog w) A (evalPairs pairs) (fun vs s₁ => ∃ ps, CarriesH knd s₁.heap vs ps ∧ s₁.heap.DictOfH knd s.heap.objs.size [] ∧
      ∀ h' tk, h'.DictOfH knd s.heap.objs.size (storedAllH [] ps) → Heap.SameBut s.heap.objs.size s₁.heap h' → Q (.ref s.heap.objs.size) { s₁ with heap := h', toks := tk }) E
      { s with heap := s.heap.push { cls := .type "dict", data := .dict #[] } }) :
    wpAny (model prog w) A (eval (.Dict keys values pos) env) Q E s := by
  rw [arm_eval_Dict, hshape, dictDisplay_pairs pairs h0 (by omega)]
  exact wpAny_bind (wpAny_standAt (wpAny_bind (wpAny_subDictH (knd := knd) (Q := fun d s' => wpAny (model prog w) A (pure (Value.ref d)) Q E s') hu hlen
    (wpAny_mono h (fun vs s₁ h₁ => by obtain ⟨ps, hc, hm, hq⟩ := h₁; exact ⟨ps, hc, hm, fun h' tk a b => wpAny_pure (hq h' tk a b)⟩) fun _ _ e => e))))
def tSOne (P : Program) (w : World) (K : PySem.W.Frag) (tk tv : TE) : TE := fun σ H Q => ∀ p, H p = none → tk σ (upd H p (SD P w p [])) fun y H1 => tv σ H1 fun v H2 =>
  H2 p = some (SD P w p []) ∧ ∃ J t a q, y = .ref a ∧ v = .ref q ∧ Pl K H2 y J ∧ Pl K H2 v t ∧ Q (.ref p) (upd H2 p (SD P w p [(J, a, q)]))
section
variable {X : Cx} {pos : Pos} {k v : Expr} {tk tv : TE}
theorem pe_sone (hu : X.A.units + 64 < cLine) (hk : PE X k tk) (hv : PE X v tv) : PE X (.Dict [some k] [v] pos) (tSOne X.prog X.w X.K tk tv) := by
  refine ⟨fun pins s σ H Q I q => ?_⟩
  have hn := I.hok.fresh (Nat.le_refl s.heap.objs.size)
  have I1 := sd_new (xs := []) (tk := s.toks) I (Nat.zero_le _) (Heap.DictOfH.new s.heap) (fun _ _ q => Heap.get?_push_of_some _ q)
  refine th_Dict_pairsH (knd := plKind X.prog X.w) (pairs := pairTrees [some k] [v] X.env pos) (room8 hu) (zip_pairTrees [some k] [v] X.env pos rfl rfl) (fun z => nomatch z) (show 1 ≤ 15 by decide) ?_
  refine pairTrees_cons_walk (thn (hk.run pins _ σ _ _ I1 (q _ hn)) fun u s1 ⟨y, H1, I2, ry, q1⟩ => thn (hv.run pins s1 σ H1 _ I2 q1) fun u2 s2 ⟨y2, H2, I3, rv, e, J, t, a, b, e1, e2, hJ, ht, q2⟩ => pairTrees_nil_walk ?_)
  subst e1 e2
  obtain rfl : u = Value.ref a := ry
  obtain rfl : u2 = Value.ref b := rv
  obtain ⟨hz, hm, dd⟩ := sd_dict I3 (.inl e) (kvs := []) .nil
  exact ⟨[(J, a, .ref b)], ⟨rfl, rfl, pl_is I3 hJ, True.intro⟩, dd, fun h' tk hd hs =>
    ⟨.ref s.heap.objs.size, _, sd_write (ys := [(J, a, b)]) (tk := tk) I3 e (by show 1 ≤ sizeLine; decide) hd hs, rfl, q2⟩⟩
/-! ### dict(ps) of a list of pairs (J, t) -/
def xmerge : SX → SX → SX
  | acc, [] => acc
  | acc, x :: r => xmerge (xput acc x.1 x.2.1 x.2.2) r
theorem vx_merge : ∀ (ys acc : SX), storedAllH (vx acc) (vx ys) = vx (xmerge acc ys)
  | [], acc => rfl
  | y :: ys, acc => by
    show storedAllH (storedH (vx acc) y.1 y.2.1 (.ref y.2.2)) (vx ys) = _
    rw [vx_put, vx_merge ys]
    rfl
def smerge (acc : List (PL × PL)) : List (PL × PL) → List (PL × PL)
  | [] => acc
  | x :: r => smerge (sput acc x.1 x.2) r
theorem SXr.merge {K : PySem.W.Frag} {H : Hp} : ∀ {ys : SX} {kvs : List (PL × PL)} {acc : SX} {kacc : List (PL × PL)}, SXr K H ys kvs → SXr K H acc kacc → SXr K H (xmerge acc ys) (smerge kacc kvs)
  | _, _, _, _, .nil, h => h
  | _, _, _, _, .cons (a := x) (b := kv) r t, h => by
    refine SXr.merge (acc := xput _ _ _ _) (kacc := sput _ _ _) t ?_
    rw [r.1]
    exact h.put r.2.1 r.2.2
theorem xmerge_len : ∀ (ys acc : SX), (xmerge acc ys).length ≤ acc.length + ys.length
  | [], acc => by show acc.length ≤ acc.length + 0; omega
  | y :: ys, acc => by
    have h1 := xmerge_len ys (xput acc y.1 y.2.1 y.2.2)
    have h2 := xput_len acc y.1 y.2.1 y.2.2
    show (xmerge (xput acc y.1 y.2.1 y.2.2) ys).length ≤ _
    rw [List.length_cons]
    omega
def rSPairs (P : Program) (w : World) (K : PySem.W.Frag) : List V → Hp → VK → Prop := fun vs H Q => ∃ (a : Addr) (ts : List Addr) (ys : SX) (kvs : List (PL × PL)), vs = [.ref a] ∧ H a = some (.lst (ts.map V.ref)) ∧ Paired (fun t y => SqT K H t [.ref y.2.1, .ref y.2.2]) ts ys ∧ SXr K H ys kvs ∧
  ∀ p, H p = none → Q (.ref p) (upd H p (SD P w p (xmerge [] ys)))
theorem cr_spairs (hc : X.calm = true) (hu : X.A.units + 64 < cLine) : CallR X (.type "dict") (rSPairs X.prog X.w X.K) := by
  intro pins s σ H vs us Q I r h
  obtain ⟨a, ts, ys, kvs, rfl, ha, hp, sx, q⟩ := h
  obtain ⟨u, rfl, rx⟩ := vals1 r
  obtain rfl : u = .ref a := rx
  obtain ⟨hz, its, n, rv, ho⟩ := (show ObjOk X.prog X.w H s.heap a (.lst (ts.map V.ref)) from I.hok a _ ha)
  have ei := refs_at rv
  subst ei
  have hlen : ts.length = ys.length := Paired.len hp
  rw [List.length_map] at hz
  let ps : List (Value × Value) := ys.map fun y => (Value.ref y.2.1, Value.ref y.2.2)
  have hps : ps.length = ts.length := by show (ys.map _).length = _; rw [List.length_map, hlen]
  let Ts : Nat → Addr := fun j => ts.getD j 0
  have hIt : PairItems s.heap (ts.map Value.ref).toArray Ts ps := by
    refine ⟨by rw [hps]; simp, fun j k v hj => ?_⟩
    have hj' : (ys.map fun y => (Value.ref y.2.1, Value.ref y.2.2))[j]? = some (k, v) := hj
    rw [List.getElem?_map] at hj'
    obtain ⟨y, hy, e⟩ := Option.map_eq_some_iff.mp hj'
    have hlt : j < ts.length := by rw [hlen]; exact (List.getElem?_eq_some_iff.mp hy).1
    have ht : ts[j]? = some ts[j] := List.getElem?_eq_getElem hlt
    obtain ⟨y', hy', hT⟩ := paired_get hp ht
    rw [hy] at hy'
    cases hy'
    have eT : Ts j = ts[j] := by
      show ts.getD j 0 = _
      rw [List.getD_eq_getElem?_getD, ht]
      rfl
    refine ⟨by rw [eT]; simp [hlt], ?_⟩
    rw [eT]
    obtain ⟨its, rv, ht2, _⟩ := I.tuple hT
    obtain ⟨u1, u2, rfl, r1, r2⟩ := vals2 rv
    cases r1
    cases r2
    cases e
    exact .inl ht2
  have his := sxr_is I sx
  refine call_dict_pairsH (knd := plKind X.prog X.w) (ps := vx ys) (PairArg.list a (ts.map Value.ref).toArray Ts ps) (I.ok.hd hc) (by show X.A.units + 1 + 1 + 8 < cLine; omega) ⟨⟨_, _, ho, rfl, rfl, rfl⟩, hIt⟩ ⟨by rw [vx_len, hps, hlen], fun i key v e => ?_⟩ (fun h' hk x hx => plKind_stays.stays (fun b o vs n e _ => hk b o (Nat.ne_of_lt (Heap.lt_size e)) (fun z => nomatch z) e) (his x hx)) (by rw [hps]; exact hz) fun h' tk hd' k => ?_
  · have e' : (ys.map fun y => (Value.ref y.2.1, Value.ref y.2.2))[i]? = some (key, v) := e
    rw [List.getElem?_map] at e'
    obtain ⟨y, hy, ee⟩ := Option.map_eq_some_iff.mp e'
    cases ee
    exact ⟨y.1, y.2.1, by unfold vx; rw [List.getElem?_map, hy] <;> rfl, rfl⟩
  · have e0 : storedAllH [] (vx ys) = vx (xmerge [] ys) := vx_merge ys []
    rw [e0] at hd'
    have hl2 := xmerge_len ys []
    rw [List.length_nil, Nat.zero_add] at hl2
    exact ⟨.ref s.heap.objs.size, _, sd_new (tk := tk) I (by omega) hd' (fun b o e => k b o (fun z => nomatch z) e), rfl, q _ (I.hok.fresh (Nat.le_refl _))⟩
end
end TH
end
section
set_option Elab.async false
set_option linter.all false
set_option maxRecDepth 100000
set_option maxHeartbeats 4000000
namespace TH
open PySem PySem.Spec PyProof.Rows L2
section
variable {X : Cx}
/-! ### sorted(d): the keys of a dict of whole numbers -/
def rSortK : List V → Hp → VK → Prop := fun xs H Q => ∃ (a : Addr) (kvs : List (Key × V)) (ks : List Int), xs = [.ref a] ∧ Rd H a (.dK kvs) ∧ kvs.map (·.1) = ks.map Sum.inl ∧
    ∀ (ys : List Int) (p : Addr), ys.Perm ks → ys.Pairwise (· ≤ ·) → H p = none → Q (.ref p) (upd H p (.lst (ys.map V.int)))
theorem cr_sortK (hcalm : X.calm = true) : CallR X (.builtin "sorted") rSortK := by
  intro pins s σ H xs us Q I r q
  obtain ⟨a, kvs, ks, ex, hd, hks, q⟩ := q
  subst ex
  obtain ⟨u, eu, rx⟩ := vals1 r
  subst eu
  cases rx
  obtain ⟨z, lo, vs, rel, dd⟩ := dk_rd I.hok hd
  obtain ⟨ep, hat⟩ := dd.dictAt
  have hkeys : vs.map (·.1) = ks.map Sum.inl := rel.keys.symm.trans hks
  have hl : vs.length = ks.length := by
    have e := congrArg List.length hkeys
    rw [List.length_map, List.length_map] at e
    exact e
  have h16 : vs.length ≤ sizeLine := by rw [← rel.length]; exact z
  refine Calls.call_function_entry PyProof.Rows.kind_sorted PyProof.Rows.plain_sorted PyProof.Rows.entry_sorted (PyProof.Rows.args_sorted1 _) ?_
  unfold Builtin.«sorted»
  refine wpAny_bind (m := checkCount "sorted" 1 1 _) (wpAny_pure ?_)
  refine wpAny_bind (PySem.W.kdu_collect (A := X.A.in1) (PySem.W.kdl_dict (knd := mixKind X.prog X.w) (kvs := vs) (ep := ep) lo) (I.ok.hd hcalm) hat h16 fun h' tk acc hk hacc => ?_)
  have hal : acc.toList.length = ks.length := by rw [Array.length_toList, hacc.1, hl]
  have hS : IntsAre acc.toList ks := ints_each hal fun j v e => by
    obtain ⟨k, x, e1, e2⟩ := hacc.2 j v (by rw [← Array.getElem?_toList]; exact e)
    have e3 : (vs.map (·.1))[j]? = some k := by rw [List.getElem?_map, e1]; rfl
    rw [hkeys, List.getElem?_map] at e3
    cases e4 : ks[j]? with
    | none => rw [e4] at e3; cases e3
    | some y =>
      rw [e4] at e3
      have e5 : Sum.inl y = k := Option.some.inj e3
      subst e5
      rcases keyIs_shape (show keyIs (Sum.inl y) v = true from e2) with ⟨i, t, ek, ev⟩ | ⟨z, t, ek, ev⟩
      · cases ek
        exact ⟨y, t, rfl, ev⟩
      · cases ek
  have I1 : Inv X pins σ H { s with heap := h', toks := tk } := I.kept hk
  refine wpAny_bind (wpAny_newList ?_ (by rw [hal, ← hl]; omega))
  have hoL : (h'.push (seqObj "list" acc.toList.toArray 0)).get? h'.objs.size = some (seqObj "list" acc.toList.toArray 0) := Heap.get?_push_size _ rfl
  show wpAny _ _ _ _ _ { s with heap := h'.push (seqObj "list" acc.toList.toArray 0), toks := tk }
  refine wpAny_bind (wpAny_holding (wpAny_call_entry PyProof.Rows.slot_list_sort ⟨_, hoL, rfl⟩ PyProof.Rows.entry_list_sort
    (SrtO.list_sort_ord (s := { s with heap := h'.push (seqObj "list" acc.toList.toArray 0), toks := tk }) SrtO.swo_int hoL (by rw [hal, ← hl]; exact h16) (fun h2 => SrtO.ints_sortable hS h2) fun out g1 g2 => ⟨_, rfl, ?_⟩) (PyProof.Rows.args_list_sort _)))
  obtain ⟨k1, k2, k3⟩ := SrtO.ints_out hS g1 g2
  obtain ⟨e', he'⟩ := PyProof.Rows.sortedHeap_at (vs := acc.toList) (out := out.toArray) hoL
  have hlen : ((out.map SrtO.iv).map V.int).length ≤ sizeLine := by
    rw [List.length_map, k2.length_eq, ← hl]
    exact h16
  refine wpAny_pure ⟨_, rfl, .ref h'.objs.size, upd H h'.objs.size (.lst ((out.map SrtO.iv).map V.int)), I1.laid (t' := tk) (fun b u e => ?_) (Nat.le_refl _)
    (show ObjOk X.prog X.w _ _ _ (.lst ((out.map SrtO.iv).map V.int)) from ⟨hlen, out, e', vals_of_ints k1, he'⟩), rfl, q _ _ k2 k3 (I1.hok.fresh (Nat.le_refl _))⟩
  have hb : b < h'.objs.size := Heap.lt_size e
  rw [PyProof.Rows.sortedHeap_old (Nat.ne_of_lt hb) (by rw [size_push']; exact Nat.lt_succ_of_lt hb)]
  exact Heap.get?_push_of_some _ e
/-! ### d.copy() -/
def rCopyK : V → List V → Hp → VK → Prop := fun x xs H Q => ∃ (a : Addr) (kvs : List (Key × V)), x = .ref a ∧ xs = [] ∧ H a = some (.dK kvs) ∧ ∀ p, H p = none → Q (.ref p) (upd H p (.dK kvs))
theorem mt_copyK : MtR X "dict.copy" rCopyK := by
  intro pins s σ H x xs v us Q I rx rxs h
  obtain ⟨a, kvs, rfl, rfl, ha, q⟩ := h
  cases rx
  cases rxs
  obtain ⟨z, hd, vs, rel, dd⟩ := dk_of I.hok ha
  refine call_meetsIn F.slot_dict_copy dd.typeIs F.entry_dict_copy (F.args_dict_copy_1 _) (meets_dict_copy (mixKind X.prog X.w) a hd) ⟨vs, dd, by rw [← rel.length]; exact z, fun h' d1 d2 k => ?_⟩
  exact ⟨.ref s.heap.objs.size, _, I.laid (a := s.heap.objs.size) (o := .dK kvs) (t' := s.toks) k (Nat.le_refl _) (dk_new z (beq_eq_false_iff_ne.mpr (Ne.symm (Nat.ne_of_lt I.big))) rel d1), rfl, q _ (I.hok.fresh (Nat.le_refl _))⟩
/-! ### min of a list of pairs -/
theorem pr_holds {pins : List (Addr × Obj)} {σ : L2.St} {H : Hp} {s : Shared} (I : Inv X pins σ H s) {v : V} {u : Value} {p : Int × Int} (h : Pr X.K H v p) (r : RelV v u) : PySem.W.Holds s.heap u p := by
  obtain ⟨t, rfl, ht⟩ := h
  have d : Dp X.K H (.ref t) (PySem.W.Datum.toD p) := .tup ht.sq (.cons (.int _) (.cons (.int _) .nil))
  exact Dp.reads I _ _ _ d r
theorem prs_holds {pins : List (Addr × Obj)} {σ : L2.St} {H : Hp} {s : Shared} (I : Inv X pins σ H s) : ∀ {vs : List V} {us : List Value} {ps : PL}, Prs X.K H vs ps → Vals vs us → PySem.W.HoldAll s.heap us ps
  | _, _, _, .nil, .nil => PySem.W.HoldAll.nil
  | _, _, _, .cons h t, .cons r q => PySem.W.HoldAll.cons (pr_holds I h r) (prs_holds I t q)
def leP (a b : Int × Int) : Prop := a.1 < b.1 ∨ (a.1 = b.1 ∧ a.2 ≤ b.2)
theorem ltP_iff (a b : Int × Int) : PySem.W.DatumOrd.lt a b = true ↔ (a.1 < b.1 ∨ (a.1 = b.1 ∧ a.2 < b.2)) := by
  show (if a.1 = b.1 then decide (a.2 < b.2) else decide (a.1 < b.1)) = true ↔ _
  by_cases e : a.1 = b.1
  · rw [if_pos e, decide_eq_true_eq]
    omega
  · rw [if_neg e, decide_eq_true_eq]
    omega
theorem minOf_le : ∀ (xs : PL) (x : Int × Int), leP (PySem.W.minOf x xs) x ∧ ∀ y ∈ xs, leP (PySem.W.minOf x xs) y
  | [], x => ⟨.inr ⟨rfl, Int.le_refl _⟩, fun _ h => nomatch h⟩
  | y :: ys, x => by
    have ih := minOf_le ys (if PySem.W.DatumOrd.lt y x = true then y else x)
    show leP (PySem.W.minOf (if PySem.W.DatumOrd.lt y x = true then y else x) ys) x ∧ ∀ z ∈ y :: ys, leP (PySem.W.minOf (if PySem.W.DatumOrd.lt y x = true then y else x) ys) z
    obtain ⟨h1, h2⟩ := ih
    generalize PySem.W.minOf (if PySem.W.DatumOrd.lt y x = true then y else x) ys = m at h1 h2 ⊢
    have key : leP m x ∧ leP m y := by
      unfold leP at h1 ⊢
      by_cases c : PySem.W.DatumOrd.lt y x = true
      · rw [if_pos c] at h1
        rw [ltP_iff] at c
        omega
      · rw [if_neg c] at h1
        rw [ltP_iff] at c
        omega
    refine ⟨key.1, fun z hz => ?_⟩
    rcases List.mem_cons.mp hz with e | hz
    · rw [e]; exact key.2
    · exact h2 z hz
theorem minOf_mem : ∀ (xs : PL) (x : Int × Int), PySem.W.minOf x xs ∈ x :: xs
  | [], x => List.mem_cons_self
  | y :: ys, x => by
    have ih := minOf_mem ys (if PySem.W.DatumOrd.lt y x = true then y else x)
    show PySem.W.minOf (if PySem.W.DatumOrd.lt y x = true then y else x) ys ∈ _
    rcases List.mem_cons.mp ih with e | h
    · rw [e]
      by_cases c : PySem.W.DatumOrd.lt y x = true
      · rw [if_pos c]; exact List.mem_cons_of_mem _ List.mem_cons_self
      · rw [if_neg c]; exact List.mem_cons_self
    · exact List.mem_cons_of_mem _ (List.mem_cons_of_mem _ h)
def rMinP (K : PySem.W.Frag) : List V → Hp → VK → Prop := fun vs H Q => ∃ (a : Addr) (ys : List V) (ps : PL), vs = [.ref a] ∧ SqL K H a ys ∧ Prs K H ys ps ∧ ps ≠ [] ∧ ∀ m v, m ∈ ps → (∀ y ∈ ps, leP m y) → Pr K H v m → Q v H
theorem cr_minP (hc : X.calm = true) (hu : X.A.units + 64 < cLine) : CallR X (.builtin "min") (rMinP X.K) := by
  intro pins s σ H vs us Q I r h
  obtain ⟨a, ys, ps, rfl, hs, hp, hne, q⟩ := h
  obtain ⟨its, rv, hl, _⟩ := I.list hs
  rw [Vals.ref1 r]
  have ha := prs_holds I hp rv
  cases ps with
  | nil => exact absurd rfl hne
  | cons x xs =>
    refine PySem.W.min_list_datum (α := Int × Int) (I.ok.hd hc) hl.isList (by simpa using ha) (by show X.A.units + 1 + (max 0 0 + 1) < cLine; omega) fun i v h' tk hi hv hk => ?_
    have hi' : its[i]? = some v := by simpa using hi
    have hlt : i < ys.length := by
      have e1 := rv.length
      have e2 := (List.getElem?_eq_some_iff.mp hi').1
      omega
    have ey : ys[i]? = some ys[i] := List.getElem?_eq_getElem hlt
    obtain ⟨u, eu, ru⟩ := rv.get ey
    rw [hi'] at eu
    cases eu
    obtain ⟨p, hp1, hp2⟩ := paired_get hp ey
    have I1 : Inv X pins σ H { s with heap := h', toks := tk } := I.kept hk
    have e : p = PySem.W.minOf x xs := by
      obtain ⟨as, rd⟩ := hv
      obtain ⟨as2, rd2⟩ := pr_holds I1 hp2 ru
      have z := PySem.SeqAt.Reads.unique _ _ _ _ _ (by rfl) rd2 rd
      have z' : PyData.tuple [.int p.1, .int p.2] = PyData.tuple [.int (PySem.W.minOf x xs).1, .int (PySem.W.minOf x xs).2] := z
      injection z' with z'
      injection z' with z1 z2
      injection z2 with z2 _
      injection z1 with z1
      injection z2 with z2
      exact Prod.ext z1 z2
    rw [e] at hp2
    exact ⟨_, H, I1, ru, q _ _ (minOf_mem xs x) (fun y hy => by
      rcases List.mem_cons.mp hy with e | hy
      · rw [e]; exact (minOf_le xs x).1
      · exact (minOf_le xs x).2 y hy) hp2⟩
/-! ### for .. in a list or a tuple -/
def iSeq (K : PySem.W.Frag) (tl : TE) : TI := fun σ H R => tl σ H fun x H1 => ∃ a, x = .ref a ∧ (((∃ xs, SqL K H1 a xs) ∧ R (Itl K a) H1) ∨ ((∃ xs, SqT K H1 a xs) ∧ R (Itt K a) H1))
theorem pi_seq {tg l : Expr} {tl : TE} (hl : PE X l tl) : PI X tg l (iSeq X.K tl) := by
  refine ⟨fun pins s σ H R I h => ?_⟩
  refine thn (hl.run pins s σ H _ I h) fun v s1 ⟨x, H1, I1, r1, a, e, q⟩ => ?_
  subst e
  cases r1
  rcases q with ⟨⟨xs, hq⟩, q⟩ | ⟨⟨xs, hq⟩, q⟩
  · obtain ⟨its, rv, p, hz⟩ := I1.list hq
    refine wpAny_pyIter_list p.isList ?_
    refine ⟨s1.heap.objs.size, [s1.heap.objs.size], _, _, H1, rfl, I1.kept (t' := s1.toks) fun b o e => Heap.get?_push_of_some _ e, turn_list a _, ⟨_, Heap.get?_push_size _ rfl, rfl, rfl⟩, fun b hb => ?_, q⟩
    have e : b = s1.heap.objs.size := by simpa using hb
    subst e
    exact I1.fpOk (Nat.le_refl _) (I1.hok.fresh (Nat.le_refl _))
  · obtain ⟨its, rv, p, hz⟩ := I1.tuple hq
    refine wpAny_pyIter_tuple (show s1.heap.IsTuple a its.toArray from p) ?_
    refine ⟨s1.heap.objs.size, [s1.heap.objs.size], _, _, H1, rfl, I1.kept (t' := s1.toks) fun b o e => Heap.get?_push_of_some _ e, turn_tuple a _, ⟨_, Heap.get?_push_size _ rfl, rfl, rfl⟩, fun b hb => ?_, q⟩
    have e : b = s1.heap.objs.size := by simpa using hb
    subst e
    exact I1.fpOk (Nat.le_refl _) (I1.hok.fresh (Nat.le_refl _))
/-! ### for i, x in enumerate(a tuple) -/
open Sem (wp) in
theorem meets_enumerate_newT (l : Addr) (items : Array Value) (n : Nat) (dct : Option Addr) (sl : Array (Option Value)) :
    Meets (Builtin.«enumerate.__new__» ⟨[.type "enumerate", .ref l], []⟩) (fun _ R s => s.heap.get? l = some { cls := .type "tuple", dict := dct, data := .seq items n, slots := sl } ∧
      R (.ok (.ret (.ref (s.heap.push { cls := .type "tuple_iterator", data := .fields #[.ref l, .int 0 0] }).objs.size)))
        { s with heap := (s.heap.push { cls := .type "tuple_iterator", data := .fields #[.ref l, .int 0 0] }).push { cls := .type "enumerate", data := .fields #[.none, .bool false, .ref s.heap.objs.size, rawInt 0, .none, .none] } }) :=
  .of_wp fun prog w A R s h => by
    obtain ⟨hp, g, d, tk, os⟩ := s; obtain ⟨hl, h⟩ := h
    have hsub := sub_enumerate
    have hL : Heap.IsTuple (Shared.heap ⟨hp, g, d, tk, os⟩) l items := ⟨_, hl, rfl, n, rfl⟩
    wp_walk using AutoSeq1.wpAny_loadPart' hl
    refine wpAny_stack_any fun st => wpAny_pure ?_
    split
    · rename_i c _ _ _ _ _
      cases (c == Value.type "enumerate")
      · wp_walk using AutoSeq1.wpAny_loadPart' hl, wpAny_pyIter_tuple hL
        exact ⟨_, rfl, h⟩
      · wp_walk using AutoSeq1.wpAny_loadPart' hl, wpAny_pyIter_tuple hL
        exact ⟨_, rfl, h⟩
    · wp_walk using AutoSeq1.wpAny_loadPart' hl, wpAny_pyIter_tuple hL
      exact ⟨_, rfl, h⟩
theorem call_enumerate_tuple {prog : Program} {w : World} {A : Around} {E : Value → Shared → Prop} {s : Shared} {l : Addr} {items : Array Value} {Q : Value → Shared → Prop} (hL : IsTup s.heap l items)
    (h : ∀ h', IsEnum h' (s.heap.objs.size + 1) s.heap.objs.size 0 .none → h'.IsTupleIter s.heap.objs.size l 0 → h'.objs.size = s.heap.objs.size + 2 →
      (∀ b o, s.heap.get? b = some o → h'.get? b = some o) → Q (.ref (s.heap.objs.size + 1)) { s with heap := h' }) :
    wpAny (model prog w) A (call (.type "enumerate") [.ref l]) Q E s := by
  obtain ⟨⟨c, dct, dt, sl⟩, hl, hc, n, hd⟩ := hL
  replace hc : c = .type "tuple" := hc
  replace hd : dt = .seq items n := hd
  subst hc hd
  refine callType_new F.called_enumerate (by decide) (F.typeCall_enumerate_1 _) (F.newCall_enumerate_1 _) (fun obj => F.args_object_init_2 obj _) F.entry_enumerate_new
    (meets_enumerate_newT l items n dct sl) ⟨hl, ?_⟩
  have hz : (s.heap.push { cls := .type "tuple_iterator", data := .fields #[.ref l, .int 0 0] }).objs.size = s.heap.objs.size + 1 := Heap.size_push ..
  show _ ∧ _
  rw [hz]
  have he : IsEnum ((s.heap.push { cls := .type "tuple_iterator", data := .fields #[.ref l, .int 0 0] }).push
      { cls := .type "enumerate", data := .fields #[.none, .bool false, .ref s.heap.objs.size, rawInt 0, .none, .none] }) (s.heap.objs.size + 1) s.heap.objs.size 0 .none := by
    have := Heap.get?_push_size (s.heap.push { cls := .type "tuple_iterator", data := .fields #[.ref l, .int 0 0] })
      (o := { cls := .type "enumerate", data := .fields #[.none, .bool false, .ref s.heap.objs.size, rawInt 0, .none, .none] }) rfl
    rw [hz] at this; exact this
  refine ⟨⟨_, he, rfl⟩, h _ he ⟨_, Heap.get?_push_of_some _ (Heap.get?_push_size _ rfl), rfl, rfl⟩ (by rw [Heap.size_push, hz]) fun b o x => Heap.get?_push_of_some _ (Heap.get?_push_of_some _ x)⟩
def IteT (K : PySem.W.Frag) (a : Addr) : It :=
  ⟨fun i H => ∃ (xs : List V) (x : V), SqT K H a xs ∧ xs[i]? = some x, fun i H v H' => ∃ T x, v = .ref T ∧ H T = none ∧ H' = upd H T (.tup [.int (i : Nat), x]) ∧ ∀ xs, SqT K H a xs → xs[i]? = some x, fun i H => ∃ xs : List V, SqT K H a xs ∧ xs.length ≤ i⟩
theorem turn_enumT {P : Program} {w : World} {K : PySem.W.Frag} {elts : List Expr} {kk : Nat} {tpos : Pos} (a e it : Addr) (hne : e ≠ it) (hae : a ≠ e) (hai : a ≠ it) :
    Turn P w K (.Tuple elts kk tpos) (IteT K a) [e, it] e (fun i h => (∃ old, IsEnum h e it ((i : Nat) : Int) old) ∧ h.IsTupleIter it a i) where
  mem := by simp
  obj := fun i h st b hb => by
    obtain ⟨⟨old, he⟩, ⟨o, ho, hc, hd⟩⟩ := st
    have e' : b = e ∨ b = it := by simpa using hb
    rcases e' with z | z
    · rw [z]; exact ⟨_, he, fun v q => nomatch q⟩
    · rw [z]; exact ⟨o, ho, fun v q => by rw [hd] at q; cases q⟩
  keep := fun i h h' st k => let ⟨⟨old, he⟩, hi⟩ := st; ⟨⟨old, k e (by simp) _ he⟩, hi.at fun o q => k it (by simp) o q⟩
  item := by
    intro X hP hw hK hc i pins s σ H E I hf st hg
    subst hP hw hK
    obtain ⟨⟨old, he⟩, hit⟩ := st
    obtain ⟨xs, x, hq, hx⟩ := hg
    obtain ⟨its, rv, p, hz⟩ := I.tuple hq
    obtain ⟨u, hu, ru⟩ := rv.get hx
    have hel : e < s.heap.objs.size := Heap.lt_size he
    have hil : it < s.heap.objs.size := by obtain ⟨_, q, _⟩ := hit; exact Heap.lt_size q
    have hlt : i < its.toArray.size := by simpa using (List.getElem?_eq_some_iff.mp hu).1
    refine wpAny_pyNext_enum_itemD (Draws.tuple (prog := X.prog) (w := X.w) (A := X.A.in1) (I.ok.hd hc) it a hai its.toArray) he ⟨hit, p⟩ hlt hne (by simp [hne, Ne.symm hae]) fun y h' tk hy ho hst hT hsz hk => ?_
    obtain ⟨hit', _⟩ := hst
    have ey : y = u := by
      rw [List.getElem?_toArray, hu] at hy
      exact (Option.some.inj hy).symm
    subst ey
    refine ⟨_, rfl, wpAny_letOwnedTupleGo_enum (s := { s with heap := h', toks := tk + 1 }) ho fun h'' he' sb => ?_⟩
    have hT2 : h''.get? s.heap.objs.size = some { cls := .type "tuple", data := .seq #[.int i tk, y] } := (sb.2 _ (Nat.ne_of_gt hel)).trans hT
    have new : ObjOk X.prog X.w (upd H s.heap.objs.size (.tup [.int (i : Nat), x])) h'' s.heap.objs.size (.tup [.int (i : Nat), x]) :=
      ⟨by show 2 ≤ sizeLine; decide, [.int i tk, y], .cons ⟨_, rfl⟩ (.cons ru .nil), ⟨_, hT2, rfl, _, rfl⟩⟩
    have I1 : Inv X pins σ (upd H s.heap.objs.size (.tup [.int (i : Nat), x])) { s with heap := h'', toks := tk + 1 } :=
      I.turnedNew (ch := [e, it]) (fun b ob hb q => (sb.2 b (fun z => hb (by simp [z]))).trans (hk b ob (fun z => hb (by simp [z])) (fun z => hb (by simp [z])) q)) hf (Nat.le_refl _) new
    refine ⟨.ref s.heap.objs.size, _, I1, rfl, ⟨_, x, rfl, I.hok.fresh (Nat.le_refl _), rfl, fun ys hy => by rw [I.tuple_inj hy hq]; exact hx⟩, ⟨⟨y, ?_⟩, hit'.at fun o q => (sb.2 it (Ne.symm hne)).trans q⟩, fun b hb => ?_⟩
    · have e1 : ((i + 1 : Nat) : Int) = (i : Int) + 1 := by omega
      rw [e1]; exact he'
    · have hb' : b < s.heap.objs.size := by
        have e' : b = e ∨ b = it := by simpa using hb
        rcases e' with z | z
        · rw [z]; exact hel
        · rw [z]; exact hil
      rw [upd_ne (Nat.ne_of_lt hb')]
      exact (hf b hb).1
  done := by
    intro X hP hw hK hc i pins s σ H E I hf st hg
    subst hP hw hK
    obtain ⟨⟨old, he⟩, hit⟩ := st
    obtain ⟨xs, hq, hx⟩ := hg
    obtain ⟨its, rv, p, hz⟩ := I.tuple hq
    obtain ⟨f0, f1, f2, f3, f4, f5⟩ := hf it (by simp)
    have hl := rv.length
    have hT : s.TypeIs (.ref e) "enumerate" := ⟨_, he, rfl⟩
    unfold pyNext
    refine wpAny_bind (wpAny_attempt (wpAny_callSpecial?_slot (name := Str.ofString "__next__") hT F.slot_enumerate_next
      (wpAny_call_entry F.slot_enumerate_next hT F.entry_enumerate_next ?_ (F.args_enumerate_next_1 _))))
    show wpAny _ _ (field (.ref e) 2 >>= _) _ _ _
    refine wpAny_bind (wpAny_field he rfl (x := .ref it) rfl ?_)
    refine wpAny_bind (wpAny_nextOf_tuple_end (A := X.A.in1) (I.ok.hd hc) hit (show s.heap.IsTuple a its.toArray from p) (by simp; omega) fun h' x he' hx' => ?_)
    obtain ⟨o, ho, hcc⟩ := hx'
    refine wpAny_bind (wpAny_isInstance (T := "StopIteration") (b := true) ⟨o, ho, hcc⟩ isSubtype_stop ?_)
    exact wpAny_pure ⟨rfl, I.turned (t' := s.toks) (fun b o hb q => he' b o hb q) f0 f1 f3 f4 f5⟩
  self := fun A i s Q E st h => let ⟨⟨_, he⟩, _⟩ := st; wpAny_pyIter_enum he h
def iEnumT (K : PySem.W.Frag) (ta : TA) : TI := fun σ H R => ta σ H fun vs H1 => ∃ a xs, vs = [.ref a] ∧ SqT K H1 a xs ∧ R (IteT K a) H1
theorem pi_enumT {e : Expr} {ta : TA} {p pos tpos : Pos} {elts : List Expr} {kk : Nat} (hg : Gl X "enumerate") (hm : X.mg "enumerate" = none) (ha : PA X [e] ta) (hs : starEach [e] X.env = [(false, eval e X.env)] := by rfl) :
    PI X (.Tuple elts kk tpos) (.Call (.Name "enumerate" p) [e] [] pos) (iEnumT X.K ta) := by
  refine ⟨fun pins s σ H R I h => ?_⟩
  refine Call_ (ld_blt I hg hm boot_enumerate (PyProof.Rows.callWith_type1 (thn (ha.run pos pins s σ H _ I h) fun us s1 ⟨vs, H1, I1, r1, q1⟩ => ?_) hs rfl))
  obtain ⟨a, xs, ex, hq, q⟩ := q1
  subst ex
  cases r1 with
  | cons r rr =>
    cases rr
    cases r
    obtain ⟨its, rv, p', hz⟩ := I1.tuple hq
    have hla : a < s1.heap.objs.size := p'.lt
    refine call_enumerate_tuple p' fun h' he hit hsz hk => wpAny_pyIter_enum he ?_
    have I2 : Inv X pins σ H1 { s1 with heap := h' } := I1.kept (t' := s1.toks) hk
    refine ⟨s1.heap.objs.size + 1, [s1.heap.objs.size + 1, s1.heap.objs.size], _, _, H1, rfl, I2, turn_enumT a (s1.heap.objs.size + 1) s1.heap.objs.size (Nat.succ_ne_self _) (Nat.ne_of_lt (Nat.lt_succ_of_lt hla)) (Nat.ne_of_lt hla), ⟨⟨.none, he⟩, hit⟩, fun b hb => ?_, q⟩
    have e' : b = s1.heap.objs.size + 1 ∨ b = s1.heap.objs.size := by simpa using hb
    have hle : s1.heap.objs.size ≤ b := by
      rcases e' with z | z
      · rw [z]; exact Nat.le_add_right _ _
      · rw [z]; exact Nat.le_refl _
    exact I1.fpOk hle (I1.hok.fresh hle)
end
end TH
end
section
set_option Elab.async false
set_option linter.all false
set_option maxRecDepth 100000
set_option maxHeartbeats 4000000
namespace TH
open PySem PySem.Spec PyProof.Rows L2
/-- every pair of the one stands in the other -/
def sIn (ka kb : List (PL × PL)) : Bool := ka.all fun kv => decide (sgt kb kv.1 = some kv.2)
def sEq (ka kb : List (PL × PL)) : Bool := (ka.length == kb.length) && sIn ka kb
theorem sgt_get {K : PySem.W.Frag} {H : Hp} {xs : SX} {kvs : List (PL × PL)} (h : SXr K H xs kvs) (hn : (xs.map (·.1)).Nodup) {j : Nat} {y : PL × Addr × Addr} (hj : xs[j]? = some y) : ∃ t, sgt kvs y.1 = some t ∧ Pl K H (.ref y.2.2) t := by
  have e : atKey (vx xs) y.1 = some (y.2.1, .ref y.2.2) := atKey_of_get (i := j) (by rw [vx_keys]; exact hn) (by unfold vx; rw [List.getElem?_map, hj]; rfl)
  rcases h.at (J := y.1) with ⟨h1, _⟩ | ⟨a, q, t, h1, h2, h3⟩
  · rw [e] at h1; cases h1
  · rw [e] at h1
    cases h1
    exact ⟨t, h2, h3⟩
section
variable {X : Cx} {pins : List (Addr × Obj)} {σ : L2.St} {H : Hp} {s : Shared} {a b : Addr} {xa xb : SX} {ka kb : List (PL × PL)} {A : Around} {E : Value → Shared → Prop}
theorem sd_same {nm : String} {Q : Bool → Shared → Prop} (hu : A.units + 8 < cLine) (I : Inv X pins σ H s) (ha : Rd H a (SD X.prog X.w a xa)) (ra : SXr X.K H xa ka) (hb : Rd H b (SD X.prog X.w b xb)) (rb : SXr X.K H xb kb) (h : Q (sEq ka kb) s) :
    wpAny (model X.prog X.w) A (Builtin.Dict.samePairs nm a b) Q E s := by
  obtain ⟨_, hma, oa, es, ep, hoa, _, hda, hea, hna⟩ := sd_rd I ha
  obtain ⟨_, hmb, ob, es', ep', hob, hcb, hdb, heb, hnb⟩ := sd_rd I hb
  have hla : ka.length = es.size := by rw [size_of_entries hea, vx_len]; exact (Paired.len ra).symm
  have hlb : kb.length = es'.size := by rw [size_of_entries heb, vx_len]; exact (Paired.len rb).symm
  have hxa : xa.length = ka.length := Paired.len ra
  have hisb := sxr_is I rb
  have hisa := sxr_is I ra
  unfold sEq at h
  rw [hla, hlb] at h
  unfold Builtin.Dict.samePairs Builtin.Dict.showsAll
  rw [if_neg (show ¬ (a == sysModules) = true by rw [hma]; exact Bool.false_ne_true), if_neg (show ¬ (b == sysModules) = true by rw [hmb]; exact Bool.false_ne_true)]
  refine wpAny_bind (wpAny_pure (wpAny_bind (wpAny_pure ?_)))
  refine wpAny_bind (wpAny_dictEntries hoa hda ?_)
  dsimp only
  refine wpAny_bind (wpAny_dictEntries hob hdb ?_)
  by_cases hsz : es.size = es'.size
  case neg =>
    rw [if_pos (by simpa using hsz)]
    have hbf : (es.size == es'.size) = false := by simpa using hsz
    rw [hbf, Bool.false_and] at h
    exact wpAny_bind (wpAny_rule (wpAny_pure h))
  case pos =>
    have h' : Q (sIn ka kb) s := by simpa [hsz] using h
    rw [if_neg (by rw [hsz]; simp)]
    refine wpAny_bind (wpAny_dictEpoch hoa hda ?_)
    refine wpAny_bind ?_
    rw [Std.Legacy.Range.forIn_eq_forIn_range']
    simp only [Std.Legacy.Range.size, Nat.sub_zero, Nat.add_sub_cancel, Nat.div_one]
    refine wpAny_forIn_list _
      (fun rest q s' => s' = s ∧ q = (none, ()) ∧ ∃ i, rest = List.range' i (es.size - i) ∧ i ≤ es.size ∧ sIn ka kb = sIn (ka.drop i) kb)
      _ ?_ ?_ _ _ ⟨rfl, rfl, 0, by simp, Nat.zero_le _, by simp⟩
    · rintro x rest q s' ⟨rfl, rfl, i, hr, hi, hpre⟩
      have hlt : i < es.size := by
        rcases Nat.lt_or_ge i es.size with h | h
        · exact h
        · rw [Nat.sub_eq_zero_of_le h] at hr; simp at hr
      obtain ⟨rfl, hrest⟩ : x = i ∧ rest = List.range' (i + 1) (es.size - (i + 1)) := by
        have e : es.size - i = (es.size - (i + 1)) + 1 := by omega
        rw [e, List.range'_succ] at hr
        injection hr with h1 h2
        exact ⟨h1, h2⟩
      refine wpAny_bind (wpAny_dictEntries hoa hda ?_)
      rw [Array.getElem?_eq_getElem hlt]
      have hltx : x < xa.length := by rw [hxa, hla]; exact hlt
      have hltk : x < ka.length := by rw [hla]; exact hlt
      have hy : xa[x]? = some xa[x] := List.getElem?_eq_getElem hltx
      obtain ⟨kv, hkv, hk1, hk2, hk3⟩ := paired_get ra hy
      have ekv : ka[x] = kv := Option.some.inj ((List.getElem?_eq_getElem hltk).symm.trans hkv)
      have hdrop : ka.drop x = kv :: ka.drop (x + 1) := by rw [← ekv]; exact List.drop_eq_getElem_cons hltk
      have een : es[x] = entryOfKey (plKind X.prog X.w) (xa[x].1, xa[x].2.1, Value.ref xa[x].2.2) := by
        have q := entry_at hea x
        rw [Array.getElem?_eq_getElem hlt] at q
        have e2 : (vx xa)[x]? = some (xa[x].1, xa[x].2.1, Value.ref xa[x].2.2) := by
          unfold vx
          rw [List.getElem?_map, hy]
          rfl
        rw [e2] at q
        exact Option.some.inj q
      rw [hdrop] at hpre
      have hpre' : sIn ka kb = (decide (sgt kb kv.1 = some kv.2) && sIn (ka.drop (x + 1)) kb) := hpre
      show wpAny _ _ (holding [es[x].key, es[x].val] _ >>= _) _ _ _
      rw [een]
      refine wpAny_bind (wpAny_holding (wpAny_bind (wpAny_dictFind_heap (knd := plKind X.prog X.w) (k := xa[x].1) (a := xa[x].2.1) hu (by
        have z := hisa (xa[x].1, xa[x].2.1, Value.ref xa[x].2.2) (List.mem_of_getElem? (i := x) (by unfold vx; rw [List.getElem?_map, hy]; rfl))
        exact z) hob hdb heb hisb (by rw [vx_keys]; exact hnb) ?_ ?_)))
      · intro hno
        have hn : sgt kb kv.1 = none := by
          rcases rb.at (J := kv.1) with ⟨_, h2⟩ | ⟨a', q', t, h1, h2, _⟩
          · exact h2
          · exfalso
            unfold atKey at h1
            obtain ⟨z, hz, ez⟩ := Option.map_eq_some_iff.mp h1
            have hp := List.find?_some hz
            have hm := List.mem_of_find?_eq_some hz
            obtain ⟨j, hj⟩ := List.mem_iff_getElem?.mp hm
            have ek : z.1 = kv.1 := by simpa using hp
            exact hno j z.2 (by rw [hj, hk1, ← ek])
        rw [hpre', hn, decide_eq_false (by simp), Bool.false_and] at h'
        refine wpAny_pure ?_
        show wpAny _ _ (if (!false) = true then _ else _) _ _ _
        rw [if_pos (by decide)]
        exact wpAny_pure (wpAny_pure h')
      · intro j p hj
        have hj' : xb[j]? = some (xa[x].1, p.1, (match p.2 with | .ref q => q | _ => 0)) ∧ ∃ q, p.2 = .ref q := by
          unfold vx at hj
          rw [List.getElem?_map] at hj
          obtain ⟨z, hz, ez⟩ := Option.map_eq_some_iff.mp hj
          obtain ⟨z1, z2, z3⟩ := z
          have e1 : z1 = xa[x].1 := congrArg Prod.fst ez
          have e2 : (z2, Value.ref z3) = p := congrArg Prod.snd ez
          subst e1
          subst e2
          exact ⟨hz, z3, rfl⟩
        obtain ⟨hj1, q', ep2⟩ := hj'
        rw [ep2] at hj1
        obtain ⟨t, ht1, ht2⟩ := sgt_get rb hnb hj1
        have ht1 : sgt kb xa[x].1 = some t := ht1
        have ht2 : Pl X.K H (.ref q') t := ht2
        refine wpAny_bind (wpAny_dictEntries hob hdb ?_)
        have q2 := entry_at heb j
        rw [hj] at q2
        rw [q2]
        show wpAny _ _ (holding [p.2] (eqBool (Value.ref xa[x].2.2) p.2)) _ _ _
        rw [ep2]
        refine wpAny_holding ((plKind X.prog X.w).eqBool (x := kv.2) (y := t) hu (pl_is I hk3) (pl_is I ht2) ?_)
        have ed : decide (sgt kb kv.1 = some kv.2) = decide (kv.2 = t) := by
          rw [← hk1, ht1]
          by_cases z : kv.2 = t
          · rw [z, decide_eq_true rfl, decide_eq_true rfl]
          · rw [decide_eq_false z, decide_eq_false fun y => z (Option.some.inj y).symm]
        rw [ed] at hpre'
        by_cases z : kv.2 = t
        · rw [decide_eq_true z] at hpre' ⊢
          rw [Bool.true_and] at hpre'
          show wpAny _ _ (if (!true) = true then _ else _) _ _ _
          rw [if_neg (by decide)]
          refine wpAny_bind (wpAny_dictEpoch hoa hda ?_)
          rw [if_neg (by simp)]
          exact wpAny_pure ⟨rfl, rfl, x + 1, hrest, hlt, hpre'⟩
        · rw [decide_eq_false z] at hpre' ⊢
          rw [Bool.false_and] at hpre'
          rw [hpre'] at h'
          show wpAny _ _ (if (!false) = true then _ else _) _ _ _
          rw [if_pos (by decide)]
          exact wpAny_pure (wpAny_pure h')
    · rintro q s' ⟨rfl, rfl, i, hr, hi, hpre⟩
      have hin : i = es.size := by
        rcases Nat.lt_or_ge i es.size with h | h
        · have e : es.size - i = (es.size - (i + 1)) + 1 := by omega
          rw [e, List.range'_succ] at hr; exact nomatch hr
        · exact Nat.le_antisymm hi h
      refine wpAny_pure ?_
      rw [hin, ← hla, List.drop_length] at hpre
      rw [hpre] at h'
      exact h'
def rSNe (P : Program) (w : World) (K : PySem.W.Frag) : R2 := fun x y H Q => ∃ a b ka kb, x = .ref a ∧ y = .ref b ∧ SmR P w K H a ka ∧ SmR P w K H b kb ∧ Q (.bl (!sEq ka kb)) H
theorem op_sne (hu : X.A.units + 64 < cLine) : OpR X (compareOp .NotEq) (rSNe X.prog X.w X.K) := by
  intro pins s σ H x y v u Q I rx ry h
  obtain ⟨a, b, ka, kb, rfl, rfl, ⟨xa, ha, ra⟩, ⟨xb, hb, rb⟩, q⟩ := h
  cases rx
  cases ry
  obtain ⟨_, _, da⟩ := sd_dict I ha ra
  obtain ⟨_, _, db⟩ := sd_dict I hb rb
  refine wpAny_richCompare_same_room (op := .NotEq) da.typeIs db.typeIs PySem.F.slot_dict_ne (wpAny_call_entry PySem.F.slot_dict_ne da.typeIs PySem.F.entry_dict_ne ?_ (PySem.F.args_dict_ne_2 _ _)) (by omega)
  show wpAny _ _ (Builtin.Dict.dictSlotArgs "__ne__" ⟨[.ref a, .ref b], []⟩ >>= _) _ _ s
  refine wpAny_bind ?_
  unfold Builtin.Dict.dictSlotArgs
  refine wpAny_bind (wpAny_notOrdered_dict da.typeIs ?_)
  show wpAny _ _ (pure (Value.ref a, Value.ref b)) _ _ s
  refine wpAny_pure ?_
  refine wpAny_bind (wpAny_isInstance (T := "dict") db.typeIs PySem.F.sub_dict_dict ?_)
  simp only [Bool.not_true, Bool.false_eq_true, if_false]
  refine wpAny_bind (wpAny_pure (wpAny_bind (wpAny_pure ?_)))
  refine wpAny_bind (sd_same (by show X.A.units + 1 + 8 < cLine; omega) I ha ra hb rb ?_)
  refine wpAny_pure ⟨_, rfl, ?_, ?_⟩
  · exact fun x => nomatch x
  · refine ⟨.bl (!sEq ka kb), H, I, ?_, q⟩
    show Value.bool _ = Value.bool _
    cases sEq ka kb <;> rfl
end
end TH
end
section
set_option Elab.async false
set_option linter.all false
set_option maxRecDepth 100000
set_option maxHeartbeats 4000000
namespace TH
open PySem PySem.Spec PyProof.Rows L2
/-! ### dicts of whole numbers, as the layer has them -/
def dm (d : PL) : List (Key × V) := d.map fun p => (Sum.inl p.1, V.int p.2)
theorem inl_ne {a b : Int} (h : a ≠ b) : (Sum.inl a : Key) ≠ Sum.inl b := fun e => h (Sum.inl.inj e)
theorem dm_val (k : Int) : ∀ d : PL, valV (dm d) (Sum.inl k) = (dv d k).map V.int
  | [] => rfl
  | p :: d => by
    have ih := dm_val k d
    unfold dv at ih ⊢
    show valV ((Sum.inl p.1, V.int p.2) :: dm d) (Sum.inl k) = _
    by_cases e : p.1 = k
    · rw [valV_pos (by show (Sum.inl p.1 : Key) = Sum.inl k; rw [e])]
      simp [List.find?_cons, e]
    · rw [valV_neg (show ¬ (Sum.inl p.1 : Key) = Sum.inl k from inl_ne e), ih]
      simp [List.find?_cons, e]
theorem dm_any (k : Int) : ∀ d : PL, ((dm d).any fun kv => decide (kv.1 = (Sum.inl k : Key))) = d.any fun p => decide (p.1 = k)
  | [] => rfl
  | p :: d => by
    show (decide ((Sum.inl p.1 : Key) = Sum.inl k) || (dm d).any _) = (decide (p.1 = k) || d.any _)
    rw [dm_any k d, key_ll]
    by_cases e : p.1 = k
    · simp [e]
    · simp [e]
theorem dm_put (d : PL) (k v : Int) : putK (dm d) (Sum.inl k) (.int v) = dm (dp d k v) := by
  unfold putK dp
  rw [dm_any]
  by_cases h : (d.any fun p => decide (p.1 = k)) = true
  · rw [if_pos h, if_pos h]
    unfold dm
    rw [List.map_map, List.map_map]
    refine List.map_congr_left fun p _ => ?_
    by_cases e : p.1 = k
    · simp [e]
    · simp only [Function.comp, if_neg e]
      rw [if_neg (inl_ne e)]
  · rw [if_neg h, if_neg h]
    unfold dm
    rw [List.map_append]
    rfl
theorem dm_drop (d : PL) (k : Int) : dropK (dm d) (Sum.inl k) = dm (dd d k) := by
  unfold dropK dd dm
  induction d with
  | nil => rfl
  | cons p d ih =>
    rw [List.map_cons, List.filter_cons, List.filter_cons]
    by_cases e : p.1 = k
    · rw [if_neg (by simp [e]), if_neg (by simp [e]), ih]
    · rw [if_pos (by simp [e]), if_pos (by simp [e]), List.map_cons, ih]
theorem dm_len (d : PL) : (dm d).length = d.length := by unfold dm; rw [List.length_map]
theorem dm_keys (d : PL) : (dm d).map (·.1) = (d.map (·.1)).map Sum.inl := by
  unfold dm
  rw [List.map_map, List.map_map]
  rfl
theorem dp_len (d : PL) (k v : Int) : (dp d k v).length ≤ d.length + 1 := by
  unfold dp
  split
  · rw [List.length_map]; omega
  · rw [List.length_append]; exact Nat.le_refl _
theorem dd_len (d : PL) (k : Int) : (dd d k).length ≤ d.length := List.length_filter_le _ _
theorem gdict_take {ts : PL} {i : Nat} {t : Int × Int} (h : ts[i]? = some t) : gdict (ts.take (i + 1)) = gstep (gdict (ts.take i)) t := by
  unfold gdict
  rw [List.take_add_one, h, List.foldl_append]
  rfl
theorem gdict_len : ∀ (ts d : PL), (ts.foldl gstep d).length ≤ d.length + ts.length
  | [], d => by show d.length ≤ d.length + 0; omega
  | t :: ts, d => by
    have h1 := gdict_len ts (gstep d t)
    have h2 := dp_len d t.1 ((dv d t.1).getD 0 + t.2)
    show (ts.foldl gstep (gstep d t)).length ≤ _
    rw [List.length_cons]
    unfold gstep at h1 ⊢
    omega
theorem dv_mem {d : PL} {k : Int} (h : k ∈ d.map (·.1)) : ∃ v, dv d k = some v := by
  induction d with
  | nil => exact nomatch h
  | cons p d ih =>
    unfold dv at ih ⊢
    by_cases e : p.1 = k
    · exact ⟨p.2, by simp [List.find?_cons, e]⟩
    · have h' : k ∈ d.map (·.1) := by
        rcases List.mem_cons.mp (show k ∈ p.1 :: d.map (·.1) from h) with z | z
        · exact absurd z.symm e
        · exact z
      obtain ⟨v, q⟩ := ih h'
      exact ⟨v, by rw [List.find?_cons, decide_eq_false e]; exact q⟩
theorem big5 {n : Nat} (h : n ≤ 1000000) : n < sizeLine := Nat.lt_of_le_of_lt h (by decide)
theorem hu64 {A : Around} {k : Nat} (hr : Room k A) : A.units + 64 < cLine := by have := hr.un; omega
theorem hu65 {A : Around} {k : Nat} (hr : Room k A) : A.units + 1 + 64 < cLine := by have := hr.un; omega
def topS (i : Nat) : Stmt := PySem.Challenge.pw_tanglehouse_k46_whole_long_rows.main.body.getD i (.Pass ⟨0, 0, 0, 0⟩)
/-- all stays but what stands at d -/
def SameX (d : Addr) (H H' : Hp) : Prop := ∀ b o, b ≠ d → H b = some o → H' b = some o
theorem Same.new {H : Hp} {p : Addr} {o : HO} (h : H p = none) : Same H (upd H p o) := fun b x e => by rw [upd_ne (ne_of_none e h)]; exact e
theorem Same.over {H H' : Hp} {p : Addr} {o : HO} (s : Same H H') (h : H p = none) : Same H (upd H' p o) := fun b x e => by rw [upd_ne (ne_of_none e h)]; exact s b x e
theorem seqT {K : PySem.W.Frag} {H H' : Hp} {a : Addr} {xs : List V} (e : Same H H') (h : SqT K H a xs) : SqT K H' a xs := by
  rcases h with (h | ⟨o, h⟩) | h
  · exact .inl (.inl (e _ _ h))
  · exact .inl (.inr ⟨o, e _ _ h⟩)
  · exact .inr h
theorem for_seq {K : PySem.W.Frag} {a : Addr} {xs : List V} {g : TG} {tb : TS} {D : Ends} {σ : L2.St} {H H0 : Hp} (hq : SqL K H0 a xs ∨ SqT K H0 a xs) (Pv : Nat → L2.St → Hp → Prop) (h0 : Pv 0 σ H)
    (hl : ∀ i σ' H', Pv i σ' H' → Same H0 H')
    (hs : ∀ i x σ H, xs[i]? = some x → Pv i σ H → g x σ H fun σ2 H2 => tb { D with nx := Pv (i + 1), ct := Pv (i + 1), bk := D.nx } σ2 H2) (hd : ∀ σ H, Pv xs.length σ H → D.nx σ H) :
    ((∃ xs, SqL K H a xs) ∧ ∃ W : Nat → Nat → L2.St → Hp → Prop, (∃ m, W 0 m σ H) ∧ ∀ i m σ H, W i m σ H →
      ((Itl K a).stop i H ∧ D.nx σ H) ∨ ((Itl K a).go i H ∧ ∃ N : L2.St → Hp → Prop, (∀ σ' H', N σ' H' → ∃ m', m' < m ∧ W (i + 1) m' σ' H') ∧ ∀ x H', (Itl K a).yld i H x H' → g x σ H' fun σ2 H2 => tb { D with nx := N, ct := N, bk := D.nx } σ2 H2)) ∨
    ((∃ xs, SqT K H a xs) ∧ ∃ W : Nat → Nat → L2.St → Hp → Prop, (∃ m, W 0 m σ H) ∧ ∀ i m σ H, W i m σ H →
      ((Itt K a).stop i H ∧ D.nx σ H) ∨ ((Itt K a).go i H ∧ ∃ N : L2.St → Hp → Prop, (∀ σ' H', N σ' H' → ∃ m', m' < m ∧ W (i + 1) m' σ' H') ∧ ∀ x H', (Itt K a).yld i H x H' → g x σ H' fun σ2 H2 => tb { D with nx := N, ct := N, bk := D.nx } σ2 H2)) := by
  rcases hq with hq | hq
  · exact .inl ⟨⟨xs, (hl _ _ _ h0).seq hq⟩, for_list Pv h0 (fun i σ H' hi p => (hl i σ H' p).seq hq) hs hd⟩
  · exact .inr ⟨⟨xs, seqT (hl _ _ _ h0) hq⟩, for_tup Pv h0 (fun i σ H' hi p => seqT (hl i σ H' p) hq) hs hd⟩
/-- a def of the text that keeps its promise, known by its name -/
def Cal (P : Program) (w : World) (K : PySem.W.Frag) (mg : Str → Option Value) (base : Heap) (k : Nat) (x : Str) (ps : List Str) (sp : Sp) : Prop :=
  ∃ f fd, FnOk P w K mg base CX0 k f fd ps sp ∧ mg x = some (.ref f) ∧ PySem.W.keepIn K (.ref f) = true ∧ Binds K fd ps []
theorem Cal.mono {P : Program} {w : World} {K : PySem.W.Frag} {mg : Str → Option Value} {base : Heap} {j k : Nat} {x : Str} {ps : List Str} {sp : Sp} (c : Cal P w K mg base j x ps sp) (h : j ≤ k) : Cal P w K mg base k x ps sp :=
  let ⟨f, fd, a, b⟩ := c; ⟨f, fd, a.mono h, b⟩
theorem pe_cal {X : Cx} {e : Expr} {es : List Expr} {t : TA} {p pos : Pos} {k : Nat} {x : Str} {ps : List Str} {sp : Sp} (C : Cal X.prog X.w X.K X.mg X.base k x ps sp) (hr : Room k X.A) (hg : Gl X x) (ha : PA X (e :: es) t)
    (hdb : (x == ("__debug__" : Str)) = false := by decide) (he : starEach (e :: es) X.env = (false, eval e X.env) :: starEach es X.env := by rfl) (hpl : (backTo pos (starEach es X.env)).any (·.1) = false := by rfl) :
    PE X (.Call (.Name x p) (e :: es) [] pos) (tCall sp [] E0 t) := by
  obtain ⟨f, fd, a, b, c, d⟩ := C
  exact pe_call a hr hg b c d .nil pass0 ha hdb he hpl
/-- a comprehension without a test -/
theorem lcYes {te : TE} {σ : L2.St} {H : Hp} {K1 : V → Hp → Prop} {N : Hp → Prop} (h : te σ H K1) : tYes σ H fun b H3 => if b = true then te σ H3 K1 else N H3 := by
  show (if true = true then te σ H K1 else N H)
  rw [if_pos rfl]
  exact h
theorem prs_at {K : PySem.W.Frag} {H : Hp} {xs : List V} {ts : PL} (h : Prs K H xs ts) {i : Nat} {x : V} (e : xs[i]? = some x) : ∃ t, ts[i]? = some t ∧ Pr K H x t := paired_get h e
end TH
end
section
set_option Elab.async false
set_option linter.all false
set_option maxRecDepth 100000
set_option maxHeartbeats 4000000
namespace TH
open PySem PySem.Spec PyProof.Rows L2
section
variable {P : Program} {w : World} {K : PySem.W.Frag} {mg : Str → Option Value} {base : Heap}
abbrev sGathered : Stmt := topS 4
theorem scGathered : FnScope ["terms", "found", "power", "number"] ["terms"] (defScope sGathered) := ⟨rfl, rfl, rfl, by decide +kernel, rfl, by decide +kernel, by decide +kernel⟩
def spGathered (K : PySem.W.Frag) : Sp := fun vs H Q _ => ∃ a xs ts, vs = [.ref a] ∧ (SqL K H a xs ∨ SqT K H a xs) ∧ Prs K H xs ts ∧ ts.length ≤ 100000 ∧ ∀ v H', Same H H' → Pl K H' v (gathered ts) → Q v H'
/-- the list that a filtering comprehension has made behind i items of ks -/
def gacc (d : PL) (ks : List Int) (i : Nat) : PL := gfin d (ks.take i)
theorem gacc_succ {d : PL} {ks : List Int} {i : Nat} {k v : Int} (h : ks[i]? = some k) (hv : dv d k = some v) : gacc d ks (i + 1) = if v ≠ 0 then gacc d ks i ++ [(k, v)] else gacc d ks i := by
  unfold gacc gfin
  rw [List.take_add_one, h]
  simp only [Option.toList, List.map_append, List.map_cons, List.map_nil, List.filter_append, hv, Option.getD_some]
  by_cases z : v = 0
  · rw [if_neg (by simp [z])]
    simp [z]
  · rw [if_pos z]
    simp [z]
theorem gacc_len (d : PL) (ks : List Int) (i : Nat) : (gacc d ks i).length ≤ ks.length := by
  unfold gacc gfin
  refine Nat.le_trans (List.length_filter_le _ _) ?_
  rw [List.length_map, List.length_take]
  omega
theorem ok_gathered {f : Addr} {fd : FuncData} {k : Nat} (F : Fun K "gathered" "gathered" sGathered f fd) (mt : mg "tuple" = none) (ms : mg "sorted" = none) : FnOk P w K mg base CX0 (k + 1) f fd ["terms"] (spGathered K) := by
  refine F.ok scGathered (fun vs H Q E h => ?_) (fun cdv A outer s H vs Q E hr h => ?_)
  · obtain ⟨a, xs, ts, rfl, _⟩ := h
    rfl
  · obtain ⟨a, xs, ts, rfl, hS, hT, hlen, q⟩ := h
    have hu := hu_of hr
    refine ⟨_, pss_cons (ps_set (i := 1) scGathered.nd rfl (.inr rfl) pe_dnewK)
      (pss_cons (ps_for PassesOwn.never rfl (pi_seq (pv 0))
          (pg_tup rfl (pgs_cons (pg_name (i := 2) scGathered.nd rfl (.inl rfl)) (pgs_cons (pg_name (i := 3) scGathered.nd rfl (.inl rfl)) pgs_nil)))
        (pss_one (ps_dput hu (pv 1) (pv 2) (pe_op op_add (pe_dget2 hu (pv 1) (pv 2) pe_int ⟨rfl, rfl, rfl, rfl⟩) (pv 3)) rfl)))
      (pss_one (ps_ret (pe_callTy call_tuple_of (by rfl) mt (by decide +kernel) (pa_cons
        (pe_lc (own := [("power", 2)]) (g := gName 2) rfl scGathered.nd (pi_list (pe_callB (cr_sortK rfl) (by rfl) ms (by decide +kernel) (pa_cons (pv 1) pa_nil)))
          (blkOk_by (own := [("power", 2)]) (N := ["terms", "found", "power", "number"]) (sc := defScope sGathered) (by decide +kernel))
          (fun _ _ _ _ _ => pg_name (i := 2) scGathered.nd rfl (Or.inl rfl))
          (fun _ _ _ _ _ => pts_one (pt_cmpR op_ne (pe_dget hu (pv 1) (pv 2) (fun _ _ => rfl)) pe_int (nomark _)))
          (fun _ _ _ _ _ => pe_tup (pa_cons (pv 2) (pa_cons (pe_dget hu (pv 1) (pv 2) (fun _ _ => rfl)) pa_nil)))) pa_nil))))), ?_⟩
    -- found = {}
    intro d nd
    have s1 : Same H (upd H d (.dK [])) := Same.new nd
    let Pv : Nat → L2.St → Hp → Prop := fun i σ Hc => ∃ y2 y3, σ = [some (.ref a), some (.ref d), y2, y3] ∧ Same H Hc ∧ Hc d = some (.dK (dm (gdict (ts.take i))))
    have h0 : Pv 0 [some (.ref a), some (.ref d), none, none] (upd H d (.dK [])) := ⟨none, none, rfl, s1, upd_same⟩
    have hxl : xs.length = ts.length := Paired.len hT
    refine ⟨.ref a, rfl, a, rfl, for_seq (H0 := H) hS Pv h0 (fun i σ' H' p => ?_) (fun i x σ Hc hx p => ?_) (fun σ Hc p => ?_)⟩
    · obtain ⟨_, _, _, sm, _⟩ := p
      exact sm
    · obtain ⟨y2, y3, rfl, sm, hd⟩ := p
      obtain ⟨t, ht, t', rfl, htp⟩ := prs_at hT hx
      have htp1 := htp.tk (TK.same sm)
      refine ⟨t', _, rfl, htp1.sq, rfl, _, _, rfl, _, _, rfl, rfl, ?_⟩
      -- found.get(power, 0) + number
      refine ⟨.ref d, rfl, d, rfl, .inl ⟨_, .inl hd⟩, .int t.1, rfl, _, DGet.k (k := Sum.inl t.1) hd, .int t.2, rfl, ?_⟩
      have hlen1 : (dm (gdict (ts.take i))).length < sizeLine := by
        rw [dm_len]
        have z := gdict_len (ts.take i) []
        rw [List.length_take, List.length_nil] at z
        unfold gdict
        exact big5 (by omega)
      refine ⟨(dv (gdict (ts.take i)) t.1).getD 0, t.2, ?_, rfl, .ref d, rfl, .int t.1, rfl, d, _, rfl, DPut.k (k := Sum.inl t.1) hd hlen1, some (.int t.1), some (.int t.2), rfl, Same.over sm nd, ?_⟩
      · rw [dm_val]
        cases dv (gdict (ts.take i)) t.1 <;> rfl
      · rw [upd_same, dm_put, gdict_take ht]
        rfl
    · obtain ⟨y2, y3, rfl, sm, hd⟩ := p
      rw [hxl, List.take_length] at hd
      have hks := dm_keys (gdict ts)
      refine ⟨.ref d, rfl, d, _, _, rfl, .inl hd, hks, fun ys l hperm hsort nl => ?_⟩
      rw [sortI_unique hperm hsort]
      let ks := sortI ((gdict ts).map (·.1))
      let H1 := upd Hc l (.lst (ks.map V.int))
      have s2 : Same Hc H1 := Same.new nl
      have hd1 : H1 d = some (.dK (dm (gdict ts))) := s2 _ _ hd
      refine ⟨l, rfl, ⟨_, .inl (.inl upd_same)⟩, fun D nD => lc_list (xs := ks.map V.int) (fun i Hx => Same H1 Hx ∧ ∃ acc, Hx D = some (.lst acc) ∧ Prs K Hx acc (gacc (gdict ts) ks i)) ⟨Same.new nD, [], upd_same, .nil⟩ (fun i Hx hi p => ?_) (fun i x Hx hx p => ?_) (fun Hx p => ?_)⟩
      · exact .inl (.inl (p.1 _ _ upd_same))
      · obtain ⟨sx, acc, hacc, hpr⟩ := p
        rw [List.getElem?_map] at hx
        obtain ⟨k, hk, rfl⟩ := Option.map_eq_some_iff.mp hx
        have hkm : k ∈ (gdict ts).map (·.1) := (sortI_perm _).mem_iff.mp (List.mem_of_getElem? hk)
        obtain ⟨v, hv⟩ := dv_mem hkm
        have hval : valV (dm (gdict ts)) (Sum.inl k) = some (.int v) := by rw [dm_val, hv]; rfl
        have hdx : Hx d = some (.dK (dm (gdict ts))) := sx _ _ hd1
        refine ⟨rfl, .ref d, rfl, .int k, rfl, d, .int v, rfl, .inl ⟨_, Sum.inl k, .inl hdx, rfl, hval.symm⟩, rfl, _, rfl, ite2 (fun e => ?_) (fun e => ?_)⟩
        · have hv0 : v ≠ 0 := fun z => by
            rw [z, decide_eq_true rfl] at e
            exact absurd e (by decide)
          refine ⟨.int k, rfl, .ref d, rfl, .int k, rfl, d, .int v, rfl, .inl ⟨_, Sum.inl k, .inl hdx, rfl, hval.symm⟩, by show 2 ≤ sizeLine; decide, fun t nt => ⟨acc, ?_, ?_, ?_, _, upd_same, ?_⟩⟩
          · rw [upd_ne (ne_of_none hacc nt)]
            exact hacc
          · have z := gacc_len (gdict ts) ks i
            rw [← Paired.len hpr] at z
            have z2 := gdict_len ts []
            rw [List.length_nil] at z2
            have z3 : ks.length = (gdict ts).length := by
              show (sortI _).length = _
              rw [(sortI_perm _).length_eq, List.length_map]
            unfold gdict at z3
            exact big5 (by omega)
          · exact Same.over (Same.over sx (sx.free nt)) nD
          · rw [gacc_succ hk hv, if_pos hv0]
            have hD2 : upd Hx t (.tup [.int k, .int v]) D = some (.lst acc) := by
              rw [upd_ne (ne_of_none hacc nt)]
              exact hacc
            have tk2 := TK.put (o := .lst (acc ++ [.ref t])) hD2 (fun _ z => nomatch z)
            exact Paired.app (hpr.tk (TK.trans (TK.new nt) tk2)) (.cons ⟨t, rfl, Tp.of (tk2 _ _ upd_same)⟩ .nil)
        · have hv0 : v = 0 := by
            rcases Decidable.em (v = 0) with z | z
            · exact z
            · exfalso
              refine e ?_
              rw [decide_eq_false (fun y => z (V.int.inj y))]
              rfl
          rw [gacc_succ hk hv, if_neg (fun z => z hv0)]
          exact ⟨sx, acc, hacc, hpr⟩
      · obtain ⟨sx, acc, hacc, hpr⟩ := p
        rw [List.length_map] at hpr
        refine ⟨D, acc, rfl, .inl ⟨.inl (.inl hacc), fun r nr => q _ _ (Same.over (fun b o e => sx _ _ (s2 _ _ (sm _ _ e))) (sm.free (s2.free (sx.free nr)))) ⟨r, acc, rfl, Tp.of upd_same, ?_⟩⟩⟩
        have e1 : gacc (gdict ts) ks ks.length = gathered ts := by
          unfold gacc gathered
          rw [List.take_length]
        rw [← e1]
        exact hpr.tk (TK.new nr)
end
end TH
end
section
set_option Elab.async false
set_option linter.all false
set_option maxRecDepth 100000
set_option maxHeartbeats 4000000
namespace TH
open PySem PySem.Spec PyProof.Rows L2
section
variable {P : Program} {w : World} {K : PySem.W.Frag} {mg : Str → Option Value} {base : Heap}
/-! ### plus -/
abbrev sPlus : Stmt := topS 5
theorem scPlus : FnScope ["one", "other"] ["one", "other"] (defScope sPlus) := ⟨rfl, rfl, rfl, by decide +kernel, rfl, by decide +kernel, by decide +kernel⟩
def spPlus (K : PySem.W.Frag) : Sp := fun vs H Q _ => ∃ x y a b, vs = [x, y] ∧ Pl K H x a ∧ Pl K H y b ∧ a.length ≤ 40000 ∧ b.length ≤ 40000 ∧ ∀ v H', Same H H' → Pl K H' v (plus a b) → Q v H'
theorem ok_plus {f : Addr} {fd : FuncData} {k : Nat} (F : Fun K "plus" "plus" sPlus f fd) (G : Cal P w K mg base k "gathered" ["terms"] (spGathered K)) : FnOk P w K mg base CX0 (k + 1) f fd ["one", "other"] (spPlus K) := by
  refine F.ok scPlus (fun vs H Q E h => ?_) (fun cdv A outer s H vs Q E hr h => ?_)
  · obtain ⟨x, y, a, b, rfl, _⟩ := h
    rfl
  · obtain ⟨x, y, a, b, rfl, ⟨tx, xs, rfl, hx, px⟩, ⟨ty, ys, rfl, hy, py⟩, la, lb, q⟩ := h
    refine ⟨_, pss_one (ps_ret (pe_cal G hr (by rfl) (pa_cons (pe_op op_catA (pv 0) (pv 1)) pa_nil))), ?_⟩
    have l1 : xs.length = a.length := Paired.len px
    have l2 : ys.length = b.length := Paired.len py
    refine ⟨.ref tx, rfl, .ref ty, rfl, tx, ty, xs, ys, rfl, rfl, hx.sq, hy.sq, Nat.le_of_lt (big5 (by omega)), fun e => ?_, fun _ e => ?_, fun _ _ p np => ?_⟩
    · subst e
      cases px
      exact ⟨ty, ys, b, rfl, .inr hy.sq, py, by omega, fun v H' s hv => q v H' s hv⟩
    · subst e
      cases py
      exact ⟨tx, xs, a, rfl, .inr hx.sq, px, by omega, fun v H' s hv => q v H' s (by unfold plus; rw [List.append_nil]; exact hv)⟩
    · have s1 : Same H (upd H p (.tup (xs ++ ys))) := Same.new np
      exact ⟨p, _, a ++ b, rfl, .inr (SqT.of upd_same), Paired.app (px.tk (TK.new np)) (py.tk (TK.new np)), by rw [List.length_append]; omega, fun v H' s hv => q v H' (s1.trans s) hv⟩
/-! ### lifted -/
abbrev sLifted : Stmt := topS 7
theorem scLifted : FnScope ["one", "many", "power", "number"] ["one", "many"] (defScope sLifted) := ⟨rfl, rfl, rfl, by decide +kernel, rfl, by decide +kernel, by decide +kernel⟩
def spLifted (K : PySem.W.Frag) : Sp := fun vs H Q _ => ∃ x a m, vs = [x, .int m] ∧ Pl K H x a ∧ a.length ≤ 100000 ∧ ∀ v H', Same H H' → Pl K H' v (lifted a m) → Q v H'
theorem lifted_take {a : PL} {m : Int} {i : Nat} {p : Int × Int} (h : a[i]? = some p) : lifted (a.take (i + 1)) m = lifted (a.take i) m ++ [(p.1 + m, p.2)] := by
  unfold lifted
  rw [List.take_add_one, h, List.map_append]
  rfl
theorem ok_lifted {f : Addr} {fd : FuncData} {k : Nat} (F : Fun K "lifted" "lifted" sLifted f fd) (mt : mg "tuple" = none) : FnOk P w K mg base CX0 (k + 1) f fd ["one", "many"] (spLifted K) := by
  refine F.ok scLifted (fun vs H Q E h => ?_) (fun cdv A outer s H vs Q E hr h => ?_)
  · obtain ⟨x, a, m, rfl, _⟩ := h
    rfl
  · obtain ⟨x, a, m, rfl, ⟨tx, xs, rfl, hx, px⟩, la, q⟩ := h
    refine ⟨_, pss_one (ps_ret (pe_callTy call_tuple_of (by rfl) mt (by decide +kernel) (pa_cons
        (pe_lc (own := [("power", 2), ("number", 3)]) (g := gTup K 2 (gCons (gName 2) (gCons (gName 3) gNil))) rfl scLifted.nd (pi_tup (pv 0))
          (blkOk_by (own := [("power", 2), ("number", 3)]) (N := ["one", "many", "power", "number"]) (sc := defScope sLifted) (by decide +kernel))
          (fun _ _ _ _ _ => pg_tup rfl (pgs_cons (pg_name (i := 2) scLifted.nd rfl (Or.inl rfl)) (pgs_cons (pg_name (i := 3) scLifted.nd rfl (Or.inl rfl)) pgs_nil)))
          (fun _ _ _ _ _ => pts_nil)
          (fun _ _ _ _ _ => pe_tup (pa_cons (pe_op op_add (pv 2) (pv 1)) (pa_cons (pv 3) pa_nil)))) pa_nil))), ?_⟩
    have l1 : xs.length = a.length := Paired.len px
    refine ⟨.ref tx, rfl, tx, rfl, ⟨xs, hx.sq⟩, fun D nD => lc_tup (xs := xs) (fun i Hx => Same H Hx ∧ ∃ acc, Hx D = some (.lst acc) ∧ Prs K Hx acc (lifted (a.take i) m)) ⟨Same.new nD, [], upd_same, .nil⟩ (fun i Hx hi p => seqT p.1 hx.sq) (fun i x Hx hxi p => ?_) (fun Hx p => ?_)⟩
    · obtain ⟨sx, acc, hacc, hpr⟩ := p
      obtain ⟨t, ht, t', rfl, htp⟩ := prs_at px hxi
      refine ⟨t', _, rfl, (htp.tk (TK.same sx)).sq, rfl, _, _, rfl, _, _, rfl, rfl, rfl, ?_⟩
      refine lcYes ⟨.int t.1, rfl, .int m, rfl, t.1, m, rfl, rfl, .int t.2, rfl, by show 2 ≤ sizeLine; decide, fun r nr => ⟨acc, ?_, ?_, Same.over (Same.over sx (sx.free nr)) nD, _, upd_same, ?_⟩⟩
      · rw [upd_ne (ne_of_none hacc nr)]
        exact hacc
      · have z : (lifted (a.take i) m).length ≤ a.length := by
          unfold lifted
          rw [List.length_map, List.length_take]
          omega
        rw [← Paired.len hpr] at z
        exact big5 (by omega)
      · rw [lifted_take ht]
        have hD2 : upd Hx r (.tup [.int (t.1 + m), .int t.2]) D = some (.lst acc) := by
          rw [upd_ne (ne_of_none hacc nr)]
          exact hacc
        have tk2 := TK.put (o := .lst (acc ++ [.ref r])) hD2 (fun _ z => nomatch z)
        exact Paired.app (hpr.tk (TK.trans (TK.new nr) tk2)) (.cons ⟨r, rfl, Tp.of (tk2 _ _ upd_same)⟩ .nil)
    · obtain ⟨sx, acc, hacc, hpr⟩ := p
      rw [l1, List.take_length] at hpr
      exact ⟨D, acc, rfl, .inl ⟨.inl (.inl hacc), fun r nr => q _ _ (Same.over sx (sx.free nr)) ⟨r, acc, rfl, Tp.of upd_same, hpr.tk (TK.new nr)⟩⟩⟩
end
end TH
end
section
set_option Elab.async false
set_option linter.all false
set_option maxRecDepth 100000
set_option maxHeartbeats 4000000
namespace TH
open PySem PySem.Spec PyProof.Rows L2
section
variable {P : Program} {w : World} {K : PySem.W.Frag} {mg : Str → Option Value} {base : Heap}
/-! ### times -/
abbrev sTimes : Stmt := topS 6
theorem scTimes : FnScope ["one", "other", "terms", "power", "number", "more", "by"] ["one", "other"] (defScope sTimes) := ⟨rfl, rfl, rfl, by decide +kernel, rfl, by decide +kernel, by decide +kernel⟩
def spTimes (K : PySem.W.Frag) : Sp := fun vs H Q _ => ∃ x y a b, vs = [x, y] ∧ Pl K H x a ∧ Pl K H y b ∧ a.length ≤ 10000 ∧ b.length ≤ 10 ∧ (∀ t ∈ b, -(2 ^ 64) < t.2 ∧ t.2 < 2 ^ 64) ∧ ∀ v H', Same H H' → Pl K H' v (times a b) → Q v H'
def rowT (b : PL) (p : Int × Int) : PL := b.map fun q => (p.1 + q.1, p.2 * q.2)
def flatT (a b : PL) : PL := a.flatMap (rowT b)
theorem flatT_take {a b : PL} {i : Nat} {p : Int × Int} (h : a[i]? = some p) : flatT (a.take (i + 1)) b = flatT (a.take i) b ++ rowT b p := by
  unfold flatT
  rw [List.take_add_one, h, List.flatMap_append]
  simp
theorem rowT_take {b : PL} {p q : Int × Int} {i : Nat} (h : b[i]? = some q) : rowT (b.take (i + 1)) p = rowT (b.take i) p ++ [(p.1 + q.1, p.2 * q.2)] := by
  unfold rowT
  rw [List.take_add_one, h, List.map_append]
  rfl
theorem flatT_len (b : PL) : ∀ a : PL, (flatT a b).length = a.length * b.length
  | [] => by simp [flatT]
  | p :: a => by
    have ih := flatT_len b a
    show (rowT b p ++ flatT a b).length = _
    rw [List.length_append, ih, List.length_cons, Nat.add_mul]
    unfold rowT
    rw [List.length_map]
    omega
theorem ok_times {f : Addr} {fd : FuncData} {k : Nat} (F : Fun K "times" "times" sTimes f fd) (G : Cal P w K mg base k "gathered" ["terms"] (spGathered K)) : FnOk P w K mg base CX0 (k + 1) f fd ["one", "other"] (spTimes K) := by
  refine F.ok scTimes (fun vs H Q E h => ?_) (fun cdv A outer s H vs Q E hr h => ?_)
  · obtain ⟨x, y, a, b, rfl, _⟩ := h
    rfl
  · obtain ⟨x, y, a, b, rfl, ⟨tx, xs, rfl, hx, px⟩, ⟨ty, ys, rfl, hy, py⟩, la, lb, hb, q⟩ := h
    refine ⟨_, pss_cons (ps_set (i := 2) scTimes.nd rfl (.inl rfl) (pe_lst pa_nil))
      (pss_cons (ps_for PassesOwn.never rfl (pi_tup (pv 0))
          (pg_tup rfl (pgs_cons (pg_name (i := 3) scTimes.nd rfl (.inr rfl)) (pgs_cons (pg_name (i := 4) scTimes.nd rfl (.inr rfl)) pgs_nil)))
        (pss_one (ps_expr (pe_bm PySem.F.plainAttrs_list PySem.F.slot_list_extend PySem.F.type_list_extend mt_extend (pv 2) (pa_cons
          (pe_lc (own := [("more", 5), ("by", 6)]) (g := gTup K 2 (gCons (gName 5) (gCons (gName 6) gNil))) rfl scTimes.nd (pi_tup (pv 1))
            (blkOk_by (own := [("more", 5), ("by", 6)]) (N := ["one", "other", "terms", "power", "number", "more", "by"]) (sc := defScope sTimes) (by decide +kernel))
            (fun _ _ _ _ _ => pg_tup rfl (pgs_cons (pg_name (i := 5) scTimes.nd rfl (Or.inl rfl)) (pgs_cons (pg_name (i := 6) scTimes.nd rfl (Or.inl rfl)) pgs_nil)))
            (fun _ _ _ _ _ => pts_nil)
            (fun _ _ _ _ _ => pe_tup (pa_cons (pe_op op_add (pv 3) (pv 5)) (pa_cons (pe_op op_mul (pv 4) (pv 6)) pa_nil)))) pa_nil)))))
      (pss_one (ps_ret (pe_cal G hr (by rfl) (pa_cons (pv 2) pa_nil))))), ?_⟩
    have l1 : xs.length = a.length := Paired.len px
    have l2 : ys.length = b.length := Paired.len py
    refine ⟨Nat.zero_le _, fun l nl => ?_⟩
    refine ⟨.ref tx, rfl, tx, rfl, ⟨xs, ((hx.tk (TK.new nl))).sq⟩, for_tup (xs := xs) (fun i σ Hc => ∃ y3 y4 y5 y6, σ = [some (.ref tx), some (.ref ty), some (.ref l), y3, y4, y5, y6] ∧ Same H Hc ∧ ∃ acc, Hc l = some (.lst acc) ∧ Prs K Hc acc (flatT (a.take i) b))
      ⟨none, none, none, none, rfl, Same.new nl, [], upd_same, .nil⟩ (fun i σ Hc hi p => ?_) (fun i x σ Hc hxi p => ?_) (fun σ Hc p => ?_)⟩
    · obtain ⟨_, _, _, _, _, sm, _⟩ := p
      exact seqT sm hx.sq
    · obtain ⟨y3, y4, y5, y6, rfl, sm, acc, hacc, hpr⟩ := p
      obtain ⟨t, ht, t', rfl, htp⟩ := prs_at px hxi
      refine ⟨t', _, rfl, (htp.tk (TK.same sm)).sq, rfl, _, _, rfl, _, _, rfl, rfl, ?_⟩
      refine ⟨.ref l, rfl, .inl ⟨rfl, _, .inl (.inl hacc)⟩, .ref ty, rfl, ty, rfl, ⟨ys, seqT sm hy.sq⟩, fun D nD => lc_tup (xs := ys) (fun j Hx => Same Hc Hx ∧ ∃ acc2, Hx D = some (.lst acc2) ∧ Prs K Hx acc2 (rowT (b.take j) t)) ⟨Same.new nD, [], upd_same, .nil⟩ (fun j Hx hj p => seqT p.1 (seqT sm hy.sq)) (fun j z Hx hzj p => ?_) (fun Hx p => ?_)⟩
      · obtain ⟨sx, acc2, hacc2, hpr2⟩ := p
        obtain ⟨u, hu, u', rfl, hup⟩ := prs_at py hzj
        have hub : u ∈ b := List.mem_of_getElem? hu
        refine ⟨u', _, rfl, ((hup.tk (TK.same sm)).tk (TK.same sx)).sq, rfl, _, _, rfl, _, _, rfl, rfl, rfl, ?_⟩
        refine lcYes ⟨.int t.1, rfl, .int u.1, rfl, t.1, u.1, rfl, rfl, .int t.2, rfl, .int u.2, rfl, t.2, u.2, rfl, rfl, .inr (hb u hub), by show 2 ≤ sizeLine; decide, fun r nr => ⟨acc2, ?_, ?_, Same.over (Same.over sx (sx.free nr)) nD, _, upd_same, ?_⟩⟩
        · rw [upd_ne (ne_of_none hacc2 nr)]
          exact hacc2
        · have z : (rowT (b.take j) t).length ≤ b.length := by
            unfold rowT
            rw [List.length_map, List.length_take]
            omega
          rw [← Paired.len hpr2] at z
          exact big5 (by omega)
        · rw [rowT_take hu]
          have hD2 : upd Hx r (.tup [.int (t.1 + u.1), .int (t.2 * u.2)]) D = some (.lst acc2) := by
            rw [upd_ne (ne_of_none hacc2 nr)]
            exact hacc2
          have tk2 := TK.put (o := .lst (acc2 ++ [.ref r])) hD2 (fun _ z => nomatch z)
          exact Paired.app (hpr2.tk (TK.trans (TK.new nr) tk2)) (.cons ⟨r, rfl, Tp.of (tk2 _ _ upd_same)⟩ .nil)
      · obtain ⟨sx, acc2, hacc2, hpr2⟩ := p
        rw [l2, List.take_length] at hpr2
        have hl2 : Hx l = some (.lst acc) := sx _ _ hacc
        refine ⟨l, D, acc, acc2, rfl, rfl, hl2, hacc2, ?_, ?_⟩
        · have z1 := flatT_len b (a.take i)
          have z2 := Paired.len hpr
          have z3 := Paired.len hpr2
          have z4 : (rowT b t).length = b.length := by unfold rowT; rw [List.length_map]
          have z5 : (a.take i).length ≤ 10000 := by rw [List.length_take]; omega
          have z6 : (a.take i).length * b.length ≤ 10000 * 10 := Nat.mul_le_mul z5 lb
          exact Nat.le_of_lt (big5 (by omega))
        · have tk2 := TK.put (o := .lst (acc ++ acc2)) hl2 (fun _ z => nomatch z)
          refine ⟨some (.int t.1), some (.int t.2), y5, y6, rfl, Same.over (fun bb o e => sx _ _ (sm _ _ e)) nl, _, upd_same, ?_⟩
          rw [flatT_take ht]
          exact Paired.app ((hpr.tk (TK.same sx)).tk tk2) (hpr2.tk tk2)
    · obtain ⟨y3, y4, y5, y6, rfl, sm, acc, hacc, hpr⟩ := p
      rw [l1, List.take_length] at hpr
      have z1 := flatT_len b a
      have z6 : a.length * b.length ≤ 10000 * 10 := Nat.mul_le_mul la lb
      exact ⟨.ref l, rfl, l, acc, flatT a b, rfl, .inl (.inl (.inl hacc)), hpr, by omega, fun v H' s2 hv => q v H' (sm.trans s2) hv⟩
/-! ### with_rings -/
abbrev sWithRings : Stmt := topS 15
theorem scWithRings : FnScope ["total", "rings", "ring"] ["total", "rings"] (defScope sWithRings) := ⟨rfl, rfl, rfl, by decide +kernel, rfl, by decide +kernel, by decide +kernel⟩
def spWithRings (K : PySem.W.Frag) : Sp := fun vs H Q _ => ∃ x t, ∃ n : Nat, vs = [x, .int n] ∧ Pl K H x t ∧ n ≤ 100 ∧ (∀ i, i ≤ n → (withRings t i).length ≤ 10000) ∧ ∀ v H', Same H H' → Pl K H' v (withRings t n) → Q v H'
theorem ok_withRings {f : Addr} {fd : FuncData} {k : Nat} (F : Fun K "with_rings" "with_rings" sWithRings f fd) (G : Cal P w K mg base k "times" ["one", "other"] (spTimes K)) (mr : mg "range" = none) {aR : Addr} (gR : mg "RING" = some (.ref aR)) (hR : ∀ H, Pl K H (.ref aR) pRING) : FnOk P w K mg base CX0 (k + 1) f fd ["total", "rings"] (spWithRings K) := by
  refine F.ok scWithRings (fun vs H Q E h => ?_) (fun cdv A outer s H vs Q E hr h => ?_)
  · obtain ⟨x, t, n, rfl, _⟩ := h
    rfl
  · obtain ⟨x, t, n, rfl, hx, hn, hlen, q⟩ := h
    refine ⟨_, pss_cons (ps_for PassesOwn.never rfl (pi_range1 rfl mr (pa_cons (pv 1) pa_nil)) (pg_name (i := 2) scWithRings.nd rfl (.inl rfl))
        (pss_one (ps_set (i := 0) scWithRings.nd rfl (.inl rfl) (pe_cal G hr (by rfl) (pa_cons (pv 0) (pa_cons (pe_glob (v := V.ref aR) rfl gR rfl) pa_nil))))))
      (pss_one (ps_ret (pv 0))), ?_⟩
    refine ⟨.int n, rfl, n, rfl, by omega, by omega, for_range (n := n) (fun i σ Hc => ∃ y y2, σ = [some y, some (.int n), y2] ∧ Same H Hc ∧ Pl K Hc y (withRings t i)) ⟨x, none, rfl, Same.refl H, hx⟩ (fun i σ Hc hi p => ?_) (fun σ Hc p => ?_)⟩
    · obtain ⟨y, y2, rfl, sm, hy⟩ := p
      refine ⟨y, rfl, y, .ref aR, withRings t i, pRING, rfl, hy, hR Hc, hlen i (by omega), by decide, by decide, fun v H' s2 hv => ⟨v, _, rfl, sm.trans s2, hv⟩⟩
    · obtain ⟨y, y2, rfl, sm, hy⟩ := p
      exact ⟨y, rfl, q y Hc sm hy⟩
end
end TH
end
section
set_option Elab.async false
set_option linter.all false
set_option maxRecDepth 100000
set_option maxHeartbeats 4000000
namespace TH
open PySem PySem.Spec PyProof.Rows L2
section
variable {P : Program} {w : World} {K : PySem.W.Frag} {mg : Str → Option Value} {base : Heap}
theorem SameX.refl (d : Addr) (H : Hp) : SameX d H H := fun _ _ _ e => e
theorem SameX.trans {d : Addr} {H H1 H2 : Hp} (a : SameX d H H1) (b : SameX d H1 H2) : SameX d H H2 := fun c o n e => b c o n (a c o n e)
theorem SameX.upd {d : Addr} {H : Hp} {o : HO} : SameX d H (upd H d o) := fun b _ n e => by rw [upd_ne n]; exact e
theorem SameX.of {d : Addr} {H H' : Hp} (h : Same H H') : SameX d H H' := fun b o _ e => h b o e
theorem SameX.tk {d : Addr} {H H' : Hp} (h : SameX d H H') {u : HO} (e : H d = some u) (n : ∀ xs, u ≠ .tup xs) : TK H H' := fun b xs q => h b _ (fun z => by rw [z, e] at q; exact n xs (Option.some.inj q)) q
theorem dd_none {d : PL} {k : Int} (h : dv d k = none) : dd d k = d := by
  unfold dd
  refine List.filter_eq_self.mpr fun p hp => ?_
  refine decide_eq_true fun e => ?_
  obtain ⟨v, q⟩ := dv_mem (d := d) (k := k) (List.mem_map.mpr ⟨p, hp, e⟩)
  rw [h] at q
  cases q
/-- d.pop(k, x) by slots -/
theorem pop2 {i j l : Nat} {σ : L2.St} {H : Hp} {Q : VK} {d : Addr} {a z : Int} {s : PL} (h1 : σ[i]? = some (some (.ref d))) (h2 : σ[j]? = some (some (.int a))) (h3 : σ[l]? = some (some (.int z))) (hd : H d = some (.dK (dm s)))
    (hq : ∀ Hc, SameX d H Hc → Hc d = some (.dK (dm (dd s a))) → Q (.int ((dv s a).getD z)) Hc) : tDPop2 (tVar i) (tVar j) (tVar l) σ H Q := by
  refine ⟨.ref d, h1, d, rfl, .inl ⟨_, .inl hd⟩, .int a, h2, .int z, h3, _, Sum.inl a, hd, rfl, fun v e => ?_, fun e => ?_⟩
  · rw [dm_val] at e
    obtain ⟨y, ey, rfl⟩ := Option.map_eq_some_iff.mp e
    have z := hq _ SameX.upd (by rw [upd_same])
    rw [ey] at z
    rw [dm_drop]
    exact z
  · rw [dm_val] at e
    have e' : dv s a = none := Option.map_eq_none_iff.mp e
    have z := hq H (SameX.refl d H) (by rw [dd_none e']; exact hd)
    rw [e'] at z
    exact z
abbrev sStrung : Stmt := topS 12
theorem scStrung : FnScope ["strands", "one", "other", "first", "last"] ["strands", "one", "other"] (defScope sStrung) := ⟨rfl, rfl, rfl, by decide +kernel, rfl, by decide +kernel, by decide +kernel⟩
def spStrung : Sp := fun vs H Q _ => ∃ d s a b, vs = [.ref d, .int a, .int b] ∧ H d = some (.dK (dm s)) ∧ s.length ≤ 1000 ∧ ∀ H', SameX d H H' → H' d = some (.dK (dm (strung s a b).1)) → Q (.int ((strung s a b).2 : Nat)) H'
theorem ok_strung {f : Addr} {fd : FuncData} {k : Nat} (F : Fun K "strung" "strung" sStrung f fd) : FnOk P w K mg base CX0 (k + 1) f fd ["strands", "one", "other"] spStrung := by
  refine F.ok scStrung (fun vs H Q E h => ?_) (fun cdv A outer s H vs Q E hr h => ?_)
  · obtain ⟨d, s, a, b, rfl, _⟩ := h
    rfl
  · obtain ⟨d, s, a, b, rfl, hd, hl, q⟩ := h
    have hu := hu_of hr
    refine ⟨_, pss_cons (ps_if (pt_cmpR op_eq (pv 1) (pv 2) (nomark _)) (pss_one (ps_ret pe_int)) pss_nil)
      (pss_cons (ps_set (i := 3) scStrung.nd rfl (.inl rfl) (pe_dpop2 (pv 0) (pv 1) (pv 1) ⟨rfl, rfl, rfl, rfl⟩))
      (pss_cons (ps_set (i := 4) scStrung.nd rfl (.inl rfl) (pe_dpop2 (pv 0) (pv 2) (pv 2) ⟨rfl, rfl, rfl, rfl⟩))
      (pss_cons (ps_if (pt_cmpR op_eq (pv 3) (pv 2) (nomark _)) (pss_one (ps_ret pe_int)) pss_nil)
      (pss_cons (ps_dput hu (pv 0) (pv 3) (pv 4) rfl) (pss_cons (ps_dput hu (pv 0) (pv 4) (pv 3) rfl) (pss_one (ps_ret pe_int))))))), ?_⟩
    refine ⟨.int a, rfl, .int b, rfl, rfl, _, rfl, ite2 (fun e => ?_) (fun e => ?_)⟩
    · have e1 : a = b := V.int.inj (of_decide_eq_true e)
      have e2 : strung s a b = (s, 1) := by unfold strung; rw [if_pos e1]
      rw [e2] at q
      exact q H (SameX.refl d H) hd
    · have e1 : ¬ a = b := fun z => e (decide_eq_true (by rw [z]))
      refine pop2 rfl rfl rfl hd fun H1 s1 h1 => ?_
      refine pop2 rfl rfl rfl h1 fun H2 s2 h2 => ?_
      refine ⟨_, rfl, .int b, rfl, rfl, _, rfl, ite2 (fun e => ?_) (fun e => ?_)⟩
      · have e3 : (dv s a).getD a = b := V.int.inj (of_decide_eq_true e)
        have e2 : strung s a b = (dd (dd s a) b, 1) := by unfold strung; rw [if_neg e1]; exact if_pos e3
        rw [e2] at q
        exact q H2 (s1.trans s2) h2
      · have e3 : ¬ (dv s a).getD a = b := fun z => e (decide_eq_true (by rw [z]))
        have e2 : strung s a b = (dp (dp (dd (dd s a) b) ((dv s a).getD a) ((dv (dd s a) b).getD b)) ((dv (dd s a) b).getD b) ((dv s a).getD a), 0) := by unfold strung; rw [if_neg e1]; exact if_neg e3
        rw [e2] at q
        have z1 := dd_len s a
        have z2 := dd_len (dd s a) b
        have z3 := dp_len (dd (dd s a) b) ((dv s a).getD a) ((dv (dd s a) b).getD b)
        refine ⟨_, rfl, .ref d, rfl, _, rfl, d, _, rfl, DPut.k (k := Sum.inl ((dv s a).getD a)) h2 (by rw [dm_len]; exact big5 (by omega)), ?_⟩
        rw [dm_put]
        refine ⟨_, rfl, .ref d, rfl, _, rfl, d, _, rfl, DPut.k (k := Sum.inl ((dv (dd s a) b).getD b)) upd_same (by rw [dm_len]; exact big5 (by omega)), ?_⟩
        rw [dm_put]
        exact q _ (((s1.trans s2).trans SameX.upd).trans SameX.upd) upd_same
/-! ### opened_at -/
abbrev sOpenedAt : Stmt := topS 13
theorem scOpenedAt : FnScope ["strands", "crossing", "way", "rings", "i", "j"] ["strands", "crossing", "way"] (defScope sOpenedAt) := ⟨rfl, rfl, rfl, by decide +kernel, rfl, by decide +kernel, by decide +kernel⟩
def spOpenedAt (K : PySem.W.Frag) : Sp := fun vs H Q _ => ∃ d s a c, ∃ wy : Nat, vs = [.ref d, .ref a, .int wy] ∧ H d = some (.dK (dm s)) ∧ s.length ≤ 900 ∧ Tp K H a (c.map V.int) ∧ c.length = 4 ∧ wy < 2 ∧
  ∀ H', SameX d H H' → H' d = some (.dK (dm (openedAt s c wy).1)) → Q (.int ((openedAt s c wy).2 : Nat)) H'
theorem strung_len (s : PL) (a b : Int) : (strung s a b).1.length ≤ s.length + 2 := by
  unfold strung
  have z1 := dd_len s a
  have z2 := dd_len (dd s a) b
  have z3 := dp_len (dd (dd s a) b) ((dv s a).getD a) ((dv (dd s a) b).getD b)
  have z4 := dp_len (dp (dd (dd s a) b) ((dv s a).getD a) ((dv (dd s a) b).getD b)) ((dv (dd s a) b).getD b) ((dv s a).getD a)
  split
  · show s.length ≤ _; omega
  · dsimp only
    split
    · show (dd (dd s a) b).length ≤ _; omega
    · show (dp _ _ _).length ≤ _; omega
theorem c_at {c : List Int} {i : Nat} (h : i < c.length) : atI (c.map V.int) (i : Nat) = some (.int (c.getD i 0)) := by
  refine atI_nat ?_
  rw [List.getElem?_map, List.getElem?_eq_getElem h, List.getD_eq_getElem?_getD, List.getElem?_eq_getElem h]
  rfl
/-- JOINS, as the top has it -/
def JoinsAt (K : PySem.W.Frag) (aJ : Addr) : Prop := ∃ a0 a1, (∀ H, Tp K H aJ [.ref a0, .ref a1]) ∧ (∀ H, Pl K H (.ref a0) [(0, 1), (2, 3)]) ∧ ∀ H, Pl K H (.ref a1) [(0, 3), (1, 2)]
def joinsI (wy : Nat) : PL := if wy = 0 then [(0, 1), (2, 3)] else [(0, 3), (1, 2)]
theorem ok_openedAt {f : Addr} {fd : FuncData} {k : Nat} (F : Fun K "opened_at" "opened_at" sOpenedAt f fd) (G : Cal P w K mg base k "strung" ["strands", "one", "other"] spStrung) {aJ : Addr} (gJ : mg "JOINS" = some (.ref aJ)) (hJ : JoinsAt K aJ) :
    FnOk P w K mg base CX0 (k + 1) f fd ["strands", "crossing", "way"] (spOpenedAt K) := by
  refine F.ok scOpenedAt (fun vs H Q E h => ?_) (fun cdv A outer s H vs Q E hr h => ?_)
  · obtain ⟨d, s, a, c, wy, rfl, _⟩ := h
    rfl
  · obtain ⟨d, s, a, c, wy, rfl, hd, hl, hc, hc4, hwy, q⟩ := h
    refine ⟨_, pss_cons (ps_set (i := 3) scOpenedAt.nd rfl (.inl rfl) pe_int)
      (pss_cons (ps_for PassesOwn.never rfl (pi_tup (pe_ix ix_tup (pe_glob (v := V.ref aJ) rfl gJ rfl) (pv 2) (fun _ _ => rfl)))
          (pg_tup rfl (pgs_cons (pg_name (i := 4) scOpenedAt.nd rfl (.inl rfl)) (pgs_cons (pg_name (i := 5) scOpenedAt.nd rfl (.inl rfl)) pgs_nil)))
        (pss_one (ps_set (i := 3) scOpenedAt.nd rfl (.inl rfl) (pe_op op_add (pv 3) (pe_cal G hr (by rfl) (pa_cons (pv 0) (pa_cons (pe_ix ix_tup (pv 1) (pv 4) (fun _ _ => rfl)) (pa_cons (pe_ix ix_tup (pv 1) (pv 5) (fun _ _ => rfl)) pa_nil))))))))
      (pss_one (ps_ret (pv 3)))), ?_⟩
    obtain ⟨a0, a1, hT, hj0, hj1⟩ := hJ
    -- the row of joins
    obtain ⟨ar, hat, hrow⟩ : ∃ ar, atI [V.ref a0, V.ref a1] (wy : Nat) = some (.ref ar) ∧ ∀ H, Pl K H (.ref ar) (joinsI wy) := by
      have : wy = 0 ∨ wy = 1 := by omega
      rcases this with rfl | rfl
      · exact ⟨a0, atI_nat (j := 0) rfl, hj0⟩
      · exact ⟨a1, atI_nat (j := 1) rfl, hj1⟩
    obtain ⟨t0, xs, e0, hx, px⟩ := hrow H
    cases e0
    refine ⟨.int wy, rfl, aJ, _, _, .ref ar, rfl, rfl, (hT H).sq, hat, ar, rfl, ⟨xs, hx.sq⟩, for_tup (xs := xs) (fun i σ Hc => ∃ y4 y5, σ = [some (.ref d), some (.ref a), some (.int wy), some (.int ((((joins wy).take i).foldl (openStep c) (s, 0)).2 : Nat)), y4, y5] ∧ SameX d H Hc ∧ Hc d = some (.dK (dm (((joins wy).take i).foldl (openStep c) (s, 0)).1)) ∧ (((joins wy).take i).foldl (openStep c) (s, 0)).1.length ≤ 900 + 2 * i)
      ⟨none, none, rfl, SameX.refl d H, hd, by show s.length ≤ _; omega⟩ (fun i σ Hc hi p => ?_) (fun i x σ Hc hxi p => ?_) (fun σ Hc p => ?_)⟩
    · obtain ⟨_, _, _, sm, _⟩ := p
      exact (hx.tk (sm.tk hd (fun _ z => nomatch z))).sq
    · obtain ⟨y4, y5, rfl, sm, hdc, hlen⟩ := p
      obtain ⟨t, ht, t', rfl, htp⟩ := prs_at px hxi
      have tk := sm.tk hd (fun _ z => nomatch z)
      obtain ⟨ij, hij, e1, e2, hl1, hl2⟩ : ∃ ij, (joins wy)[i]? = some ij ∧ t.1 = (ij.1 : Nat) ∧ t.2 = (ij.2 : Nat) ∧ ij.1 < 4 ∧ ij.2 < 4 := by
        have w2 : wy = 0 ∨ wy = 1 := by omega
        have i2 : i = 0 ∨ i = 1 := by
          have z := (List.getElem?_eq_some_iff.mp ht).1
          have z2 : (joinsI wy).length = 2 := by unfold joinsI; split <;> rfl
          omega
        rcases w2 with rfl | rfl <;> rcases i2 with rfl | rfl <;> cases ht <;> exact ⟨_, rfl, rfl, rfl, by decide, by decide⟩
      have i2 : i < 2 := by
        have z := (List.getElem?_eq_some_iff.mp hij).1
        have z2 : (joins wy).length = 2 := by unfold joins; split <;> rfl
        omega
      have hcc := (hc.tk tk).sq
      refine ⟨t', _, rfl, (htp.tk tk).sq, rfl, _, _, rfl, _, _, rfl, rfl, ?_⟩
      have ea1 := c_at (c := c) (i := ij.1) (by rw [hc4]; exact hl1)
      have ea2 := c_at (c := c) (i := ij.2) (by rw [hc4]; exact hl2)
      rw [← e1] at ea1
      rw [← e2] at ea2
      refine ⟨_, rfl, .ref d, rfl, .ref a, rfl, .int t.1, rfl, a, _, _, _, rfl, rfl, hcc, ea1, .ref a, rfl, .int t.2, rfl, a, _, _, _, rfl, rfl, hcc, ea2, d, _, _, _, rfl, hdc, by omega, fun H' s2 h2 => ⟨_, _, rfl, rfl, ?_⟩⟩
      have et : (joins wy).take (i + 1) = (joins wy).take i ++ [ij] := by rw [List.take_add_one, hij]; rfl
      have ef : ((joins wy).take (i + 1)).foldl (openStep c) (s, 0) = openStep c (((joins wy).take i).foldl (openStep c) (s, 0)) ij := by rw [et, List.foldl_append]; rfl
      refine ⟨some (.int t.1), some (.int t.2), ?_, sm.trans s2, ?_, ?_⟩
      · rw [ef]
        rfl
      · rw [ef]
        exact h2
      · rw [ef]
        have z := strung_len (((joins wy).take i).foldl (openStep c) (s, 0)).1 (c.getD ij.1 0) (c.getD ij.2 0)
        show (strung _ _ _).1.length ≤ _
        omega
    · obtain ⟨y4, y5, rfl, sm, hdc, hlen⟩ := p
      have z : xs.length = 2 := by
        rw [Paired.len px]
        unfold joinsI
        split <;> rfl
      have z2 : (joins wy).take xs.length = joins wy := by
        refine List.take_of_length_le ?_
        rw [z]
        unfold joins
        split <;> decide
      rw [z2] at hdc
      refine ⟨_, rfl, ?_⟩
      rw [z2]
      exact q Hc sm hdc
end
end TH
end
section
set_option Elab.async false
set_option linter.all false
set_option maxRecDepth 100000
set_option maxHeartbeats 4000000
namespace TH
open PySem PySem.Spec PyProof.Rows L2
section
variable {X : Cx}
theorem pl_holds {pins : List (Addr × Obj)} {σ : L2.St} {H : Hp} {s : Shared} (I : Inv X pins σ H s) {v : V} {u : Value} {ps : PL} (h : Pl X.K H v ps) (r : RelV v u) : PySem.W.Holds s.heap u (PySem.W.Tup.mk ps) := by
  obtain ⟨t, vs, rfl, ht, hp⟩ := h
  cases r
  obtain ⟨its, rv, tt, _⟩ := I.tuple ht.sq
  exact PySem.W.holds_tup (show s.heap.IsTuple t its.toArray from tt) (by simpa using prs_holds I hp rv)
def rNePl (K : PySem.W.Frag) : R2 := fun x y H Q => ∃ a b, Pl K H x a ∧ Pl K H y b ∧ Q (.bl (decide (a ≠ b))) H
theorem op_nePl (hu : X.A.units + 64 < cLine) : OpR X (compareOp .NotEq) (rNePl X.K) := by
  intro pins s σ H x y v u Q I rx ry h
  obtain ⟨a, b, ha, hb, q⟩ := h
  refine PySem.W.ne_datum (pl_holds I ha rx) (pl_holds I hb ry) (by show X.A.units + (max 0 0 + 1 + 1) < cLine; omega) ⟨.bl (decide (a ≠ b)), H, I, ?_, q⟩
  show Value.bool _ = Value.bool _
  have e : decide (PySem.W.Tup.mk a ≠ PySem.W.Tup.mk b) = decide (a ≠ b) := decide_eq_decide.mpr ⟨fun h z => h (by rw [z]), fun h z => h (congrArg PySem.W.Tup.items z)⟩
  rw [e]
end
section
variable {P : Program} {w : World} {K : PySem.W.Frag} {mg : Str → Option Value} {base : Heap}
/-! ### put_to -/
abbrev sPutTo : Stmt := topS 16
theorem scPutTo : FnScope ["sums", "joining", "total"] ["sums", "joining", "total"] (defScope sPutTo) := ⟨rfl, rfl, rfl, by decide +kernel, rfl, by decide +kernel, by decide +kernel⟩
def spPutTo (P : Program) (w : World) (K : PySem.W.Frag) : Sp := fun vs H Q _ => ∃ d xs kvs x y J t, vs = [.ref d, x, y] ∧ H d = some (SD P w d xs) ∧ SXr K H xs kvs ∧ kvs.length ≤ 100000 ∧ Pl K H x J ∧ Pl K H y t ∧ t.length ≤ 40000 ∧ (∀ u, sgt kvs J = some u → u.length ≤ 40000) ∧
  ∀ H' ys, SameX d H H' → H' d = some (SD P w d ys) → SXr K H' ys (putTo kvs J t) → Q .non H'
theorem pl_nil {K : PySem.W.Frag} {H : Hp} {p : Addr} : Pl K (upd H p (.tup [])) (.ref p) [] := ⟨p, [], rfl, Tp.of upd_same, .nil⟩
theorem ok_putTo {f : Addr} {fd : FuncData} {k : Nat} (F : Fun K "put_to" "put_to" sPutTo f fd) (G : Cal P w K mg base k "plus" ["one", "other"] (spPlus K)) : FnOk P w K mg base CX0 (k + 1) f fd ["sums", "joining", "total"] (spPutTo P w K) := by
  refine F.ok scPutTo (fun vs H Q E h => ?_) (fun cdv A outer s H vs Q E hr h => ?_)
  · obtain ⟨d, xs, kvs, x, y, J, t, rfl, _⟩ := h
    rfl
  · obtain ⟨d, xs, kvs, x, y, J, t, rfl, hd, sx, hl, hx, hy, lt, lu, q⟩ := h
    have hu := hu64 hr
    refine ⟨_, pss_one (ps_sput hu (pv 0) (pv 1) (pe_cal G hr (by rfl) (pa_cons (pe_sget hu (pv 0) (pv 1) (pe_tup pa_nil) ⟨rfl, rfl, rfl, rfl⟩) (pa_cons (pv 2) pa_nil))) rfl), ?_⟩
    refine ⟨.ref d, rfl, d, kvs, rfl, ⟨xs, .inl hd, sx⟩, x, rfl, Nat.zero_le _, fun p np => ?_⟩
    have s1 : Same H (upd H p (.tup [])) := Same.new np
    have k1 := TK.same s1
    have fin : ∀ v H2 t0, Same (upd H p (.tup [])) H2 → Pl K H2 v (plus t0 t) → plus t0 t = plus ((sgt kvs J).getD []) t → sSPut P w K (tVar 0) (tVar 1) (fun σ H Q => Q v H2) { nx := fun _ H' => Q .non H', rt := Q } (start ["sums", "joining", "total"] [.ref d, x, y]) H2 := by
      intro v H2 t0 s2 hv e
      have s3 := s1.trans s2
      have k3 := TK.same s3
      refine ⟨.ref d, rfl, x, rfl, d, xs, kvs, J, plus t0 t, rfl, s3 _ _ hd, sx.tk k3, Nat.lt_of_le_of_lt hl (by decide), hx.tk k3, hv, fun ys sy => q _ ys (fun b o nb e => ?_) upd_same (by unfold putTo; rw [← e]; exact sy)⟩
      rw [upd_ne nb]
      exact s3 _ _ e
    refine ⟨kvs, J, ⟨xs, .inl (s1 _ _ hd), sx.tk k1⟩, hx.tk k1, fun u v e hv => ?_, fun e => ?_⟩
    · exact ⟨y, rfl, v, y, u, t, rfl, hv, hy.tk k1, lu u e, lt, fun v2 H2 s2 hv2 => fin v2 H2 u s2 hv2 (by rw [e] <;> rfl)⟩
    · exact ⟨y, rfl, .ref p, y, [], t, rfl, pl_nil, hy.tk k1, Nat.zero_le _, lt, fun v2 H2 s2 hv2 => fin v2 H2 [] s2 hv2 (by rw [e] <;> rfl)⟩
/-! ### without_noughts -/
abbrev sNoN : Stmt := topS 17
theorem scNoN : FnScope ["sums", "found", "joining", "total"] ["sums"] (defScope sNoN) := ⟨rfl, rfl, rfl, by decide +kernel, rfl, by decide +kernel, by decide +kernel⟩
def spNoN (P : Program) (w : World) (K : PySem.W.Frag) : Sp := fun vs H Q _ => ∃ d kvs, vs = [.ref d] ∧ Sm P w K H d kvs ∧ kvs.length ≤ 100000 ∧ ∀ p H', Same H H' → H p = none → Sm P w K H' p (noNoughts kvs) → Q (.ref p) H'
def nnStep (g : List (PL × PL)) (kv : PL × PL) : List (PL × PL) := if kv.2 ≠ [] then sput g kv.1 kv.2 else g
theorem nn_len : ∀ (kvs g : List (PL × PL)), (kvs.foldl nnStep g).length ≤ g.length + kvs.length
  | [], g => by show g.length ≤ g.length + 0; omega
  | kv :: kvs, g => by
    have h1 := nn_len kvs (nnStep g kv)
    have h2 : (nnStep g kv).length ≤ g.length + 1 := by
      unfold nnStep
      split
      · exact sput_len _ _ _
      · omega
    show (kvs.foldl nnStep (nnStep g kv)).length ≤ _
    rw [List.length_cons]
    omega
theorem ok_noN {f : Addr} {fd : FuncData} {k : Nat} (F : Fun K "without_noughts" "without_noughts" sNoN f fd) : FnOk P w K mg base CX0 (k + 1) f fd ["sums"] (spNoN P w K) := by
  refine F.ok scNoN (fun vs H Q E h => ?_) (fun cdv A outer s H vs Q E hr h => ?_)
  · obtain ⟨d, kvs, rfl, _⟩ := h
    rfl
  · obtain ⟨d, kvs, rfl, ⟨xs, hd, sx⟩, hl, q⟩ := h
    have hu := hu64 hr
    refine ⟨_, pss_cons (ps_set (i := 1) scNoN.nd rfl (.inl rfl) pe_snew)
      (pss_cons (ps_lock (ps_for PassesOwn.never rfl (pi_sitems (pv 0))
          (pg_tup rfl (pgs_cons (pg_name (i := 2) scNoN.nd rfl (.inl rfl)) (pgs_cons (pg_name (i := 3) scNoN.nd rfl (.inl rfl)) pgs_nil)))
        (pss_one (ps_if (pt_cmpR (op_nePl hu) (pv 3) (pe_tup pa_nil) (nomark _)) (pss_one (ps_sput hu (pv 1) (pv 2) (pv 3) rfl)) pss_nil))))
      (pss_one (ps_ret (pv 1)))), ?_⟩
    intro p np
    have ndp : d ≠ p := ne_of_none hd np
    have lx : xs.length = kvs.length := Paired.len sx
    refine ⟨d, SD P w d xs, by rw [upd_ne ndp]; exact hd, True.intro, fun od => ?_⟩
    refine ⟨.ref d, rfl, d, od, xs, rfl, upd_same, for_s (fun i σ Hc => ∃ y2 y3, σ = [some (.ref d), some (.ref p), y2, y3] ∧ SameX d H Hc ∧ Hc d = some (.frz od (SD P w d xs)) ∧ ∃ ys, Hc p = some (SD P w p ys) ∧ SXr K Hc ys ((kvs.take i).foldl nnStep []))
      ⟨none, none, rfl, fun b o nb e => ?_, upd_same, [], ?_, .nil⟩ (fun i σ Hc hi p => ?_) (fun i y σ Hc T hy p nT => ?_) (fun σ Hc p => ?_)⟩
    · rw [upd_ne nb, upd_ne (ne_of_none e np)]
      exact e
    · rw [upd_ne (Ne.symm ndp), upd_same]
      rfl
    · obtain ⟨_, _, _, _, e, _⟩ := p
      exact e
    · obtain ⟨y2, y3, rfl, sm, hdc, ys, hp, sy⟩ := p
      obtain ⟨kv, hkv, e1, hJ, ht⟩ := paired_get sx hy
      have k1 : TK H (upd Hc T (.tup [.ref y.2.1, .ref y.2.2])) := (sm.tk hd (fun _ z => nomatch z)).trans (TK.new nT)
      have e3 : (kvs.take (i + 1)).foldl nnStep [] = nnStep ((kvs.take i).foldl nnStep []) kv := by rw [List.take_add_one, hkv, List.foldl_append]; rfl
      refine ⟨T, _, rfl, .inl (.inl upd_same), rfl, _, _, rfl, _, _, rfl, rfl, ?_⟩
      refine ⟨.ref y.2.2, rfl, Nat.zero_le _, fun r nr => ?_⟩
      have k2 := k1.trans (TK.new (o := .tup []) nr)
      have s2 : Same Hc (upd (upd Hc T (.tup [.ref y.2.1, .ref y.2.2])) r (.tup [])) := (Same.new nT).trans (Same.new nr)
      have sx2 : SameX d H (upd (upd Hc T (.tup [.ref y.2.1, .ref y.2.2])) r (.tup [])) := sm.trans (SameX.of s2)
      refine ⟨kv.2, [], ht.tk k2, pl_nil, _, rfl, ite2 (fun e => ?_) (fun e => ?_)⟩
      · have ne : kv.2 ≠ [] := of_decide_eq_true e
        have hz : ((kvs.take i).foldl nnStep []).length < sizeLine := by
          have z := nn_len (kvs.take i) []
          rw [List.length_take, List.length_nil] at z
          exact Nat.lt_of_le_of_lt (by omega : _ ≤ 100000) (by decide)
        refine ⟨.ref y.2.2, rfl, .ref p, rfl, .ref y.2.1, rfl, p, ys, _, kv.1, kv.2, rfl, s2 _ _ hp, sy.tk (TK.same s2), hz, hJ.tk k2, ht.tk k2, fun zs sz => ⟨some (.ref y.2.1), some (.ref y.2.2), rfl, fun b o nb eb => ?_, ?_, zs, upd_same, ?_⟩⟩
        · rw [upd_ne (ne_of_none eb np)]
          exact sx2 b o nb eb
        · rw [upd_ne ndp]
          exact s2 _ _ hdc
        · rw [e3]
          unfold nnStep
          rw [if_pos ne]
          exact sz
      · have ne : ¬ kv.2 ≠ [] := fun z => e (decide_eq_true z)
        refine ⟨some (.ref y.2.1), some (.ref y.2.2), rfl, sx2, s2 _ _ hdc, ys, s2 _ _ hp, ?_⟩
        rw [e3]
        unfold nnStep
        rw [if_neg ne]
        exact sy.tk (TK.same s2)
    · obtain ⟨y2, y3, rfl, sm, hdc, ys, hp, sy⟩ := p
      rw [lx, List.take_length] at sy
      refine ⟨hdc, .ref p, rfl, q p _ (fun b o e => ?_) np ⟨ys, ?_, sy.tk (TK.put hdc (fun _ z => nomatch z))⟩⟩
      · by_cases nb : b = d
        · subst nb
          rw [upd_same, ← e, hd]
        · rw [upd_ne nb]
          exact sm b o nb e
      · rw [upd_ne (Ne.symm ndp)]
        exact hp
end
end TH
end
section
set_option Elab.async false
set_option linter.all false
set_option maxRecDepth 100000
set_option maxHeartbeats 4000000
namespace TH
open PySem PySem.Spec PyProof.Rows L2
section
variable {P : Program} {w : World} {K : PySem.W.Frag} {mg : Str → Option Value} {base : Heap}
/-! ### joining_of -/
abbrev sJoiningOf : Stmt := topS 14
theorem scJoiningOf : FnScope ["ends", "strands", "found", "i", "arc", "goal", "j"] ["ends", "strands"] (defScope sJoiningOf) := ⟨rfl, rfl, rfl, by decide +kernel, rfl, by decide +kernel, by decide +kernel⟩
def spJoiningOf (K : PySem.W.Frag) : Sp := fun vs H Q _ => ∃ a d ends s, vs = [.ref a, .ref d] ∧ Tp K H a (ends.map V.int) ∧ ends.length ≤ 100 ∧ H d = some (.dK (dm s)) ∧ ∀ v H', Same H H' → Pl K H' v (joiningOf ends s) → Q v H'
def jrow (ends : List Int) (s : PL) (i m : Nat) : PL :=
  (((List.range' (i + 1) m : List Nat)).filter fun (j : Nat) => decide (ends.getD j 0 = (dv s (ends.getD i 0)).getD (ends.getD i 0))).map fun (j : Nat) => ((i : Int), (j : Int))
theorem jrow_succ (ends : List Int) (s : PL) (i m : Nat) : jrow ends s i (m + 1) = if ends.getD (i + 1 + m) 0 = (dv s (ends.getD i 0)).getD (ends.getD i 0) then jrow ends s i m ++ [((i : Int), ((i + 1 + m : Nat) : Int))] else jrow ends s i m := by
  unfold jrow
  rw [List.range'_concat, List.filter_append, List.map_append]
  by_cases h : ends.getD (i + 1 + m) 0 = (dv s (ends.getD i 0)).getD (ends.getD i 0)
  · rw [if_pos h]
    simp only [Nat.one_mul, List.filter_cons, decide_eq_true h, if_true, List.filter_nil, List.map_cons, List.map_nil]
  · rw [if_neg h]
    simp only [Nat.one_mul, List.filter_cons, decide_eq_false h, Bool.false_eq_true, if_false, List.filter_nil, List.map_nil, List.append_nil]
theorem jrow_len (ends : List Int) (s : PL) (i m : Nat) : (jrow ends s i m).length ≤ m := by
  unfold jrow
  rw [List.length_map]
  refine Nat.le_trans (List.length_filter_le _ _) ?_
  rw [List.length_range']
  exact Nat.le_refl _
theorem joinTake (ends : List Int) (s : PL) (i : Nat) : (List.range (i + 1)).flatMap (joinRow ends s) = (List.range i).flatMap (joinRow ends s) ++ joinRow ends s i := by
  rw [List.range_succ, List.flatMap_append]
  simp
theorem joinLen (ends : List Int) (s : PL) : ∀ i, ((List.range i).flatMap (joinRow ends s)).length ≤ i * ends.length
  | 0 => by simp
  | i + 1 => by
    rw [joinTake, List.length_append, Nat.add_mul]
    have h1 := joinLen ends s i
    have h2 := jrow_len ends s i (ends.length - (i + 1))
    have h3 : (joinRow ends s i).length ≤ ends.length - (i + 1) := h2
    omega
theorem ok_joiningOf {f : Addr} {fd : FuncData} {k : Nat} (F : Fun K "joining_of" "joining_of" sJoiningOf f fd) (me : mg "enumerate" = none) (mr : mg "range" = none) (ml : mg "len" = none) (mt : mg "tuple" = none) :
    FnOk P w K mg base CX0 (k + 1) f fd ["ends", "strands"] (spJoiningOf K) := by
  refine F.ok scJoiningOf (fun vs H Q E h => ?_) (fun cdv A outer s H vs Q E hr h => ?_)
  · obtain ⟨a, d, ends, s, rfl, _⟩ := h
    rfl
  · obtain ⟨a, d, ends, s, rfl, ha, hl, hd, q⟩ := h
    have hu := hu_of hr
    refine ⟨_, pss_cons (ps_set (i := 2) scJoiningOf.nd rfl (.inl rfl) (pe_lst pa_nil))
      (pss_cons (ps_for PassesOwn.never rfl (pi_enumT (by rfl) me (pa_cons (pv 0) pa_nil))
          (pg_tup rfl (pgs_cons (pg_name (i := 3) scJoiningOf.nd rfl (.inl rfl)) (pgs_cons (pg_name (i := 4) scJoiningOf.nd rfl (.inl rfl)) pgs_nil)))
        (pss_cons (ps_set (i := 5) scJoiningOf.nd rfl (.inl rfl) (pe_dget2 hu (pv 1) (pv 4) (pv 4) ⟨rfl, rfl, rfl, rfl⟩))
        (pss_one (ps_for PassesOwn.never rfl (pi_range2 (by rfl) mr (pa_cons (pe_op op_add (pv 3) pe_int) (pa_cons (pe_callB call_len (by rfl) ml PySem.boot_len (pa_cons (pv 0) pa_nil)) pa_nil))) (pg_name (i := 6) scJoiningOf.nd rfl (.inl rfl))
          (pss_one (ps_if (pt_cmpR op_eq (pe_ix ix_tup (pv 0) (pv 6) (fun _ _ => rfl)) (pv 5) (nomark _))
            (pss_one (ps_expr (pe_bm PySem.F.plainAttrs_list PySem.F.slot_list_append PySem.F.type_list_append mt_append (pv 2) (pa_cons (pe_tup (pa_cons (pv 3) (pa_cons (pv 6) pa_nil))) pa_nil)))) pss_nil))))))
      (pss_one (ps_ret (pe_callTy call_tuple_of (by rfl) mt (by decide +kernel) (pa_cons (pv 2) pa_nil))))), ?_⟩
    refine ⟨Nat.zero_le _, fun l nl => ?_⟩
    have ndl : d ≠ l := ne_of_none hd nl
    refine ⟨.ref a, rfl, a, _, rfl, (ha.tk (TK.new nl)).sq, ?_⟩
    let J : Nat → PL := fun i => (List.range i).flatMap (joinRow ends s)
    refine ⟨fun i m σ Hc => ∃ y3 y4 y5 y6, σ = [some (.ref a), some (.ref d), some (.ref l), y3, y4, y5, y6] ∧ i + m = ends.length ∧ Same H Hc ∧ ∃ acc, Hc l = some (.lst acc) ∧ Prs K Hc acc (J i),
      ⟨ends.length, none, none, none, none, rfl, by omega, Same.new nl, [], upd_same, .nil⟩, fun i m σ Hc p => ?_⟩
    obtain ⟨y3, y4, y5, y6, rfl, em, sm, acc, hacc, hpr⟩ := p
    have hac := seqT sm ha.sq
    by_cases hi : i < ends.length
    · have g1 : (ends.map V.int)[i]? = some (.int (ends.getD i 0)) := by
        rw [List.getElem?_map, List.getElem?_eq_getElem hi, List.getD_eq_getElem?_getD, List.getElem?_eq_getElem hi]
        rfl
      refine .inr ⟨⟨_, _, hac, g1⟩, fun σ' H' => ∃ y3 y4 y5 y6, σ' = [some (.ref a), some (.ref d), some (.ref l), y3, y4, y5, y6] ∧ Same H H' ∧ ∃ acc, H' l = some (.lst acc) ∧ Prs K H' acc (J (i + 1)), fun σ' H' hN => ?_, fun x H' hy => ?_⟩
      · obtain ⟨z3, z4, z5, z6, e, s', r⟩ := hN
        exact ⟨m - 1, by omega, z3, z4, z5, z6, e, by omega, s', r⟩
      · obtain ⟨T, x0, rfl, nT, rfl, fx⟩ := hy
        have ex : x0 = .int (ends.getD i 0) := Option.some.inj ((fx _ hac).symm.trans g1)
        subst ex
        have sT : Same Hc (upd Hc T (.tup [.int (i : Nat), .int (ends.getD i 0)])) := Same.new nT
        refine ⟨T, _, rfl, .inl (.inl upd_same), rfl, _, _, rfl, _, _, rfl, rfl, ?_⟩
        have hd1 := sT _ _ (sm _ _ hd)
        refine ⟨.ref d, rfl, d, rfl, .inl ⟨_, .inl hd1⟩, .int (ends.getD i 0), rfl, .int (ends.getD i 0), rfl, _, DGet.k (k := Sum.inl (ends.getD i 0)) hd1, ?_⟩
        have eg : (valV (dm s) (Sum.inl (ends.getD i 0))).getD (.int (ends.getD i 0)) = .int ((dv s (ends.getD i 0)).getD (ends.getD i 0)) := by
          rw [dm_val]
          cases dv s (ends.getD i 0) <;> rfl
        rw [eg]
        -- the inner loop
        refine ⟨.int (i : Nat), rfl, (i : Nat), 1, rfl, rfl, .ref a, rfl, .ref a, ends.length, rfl, .inr ⟨_, seqT sT hac, by rw [List.length_map]⟩, ?_⟩
        have hlo : (((ends.length : Nat) : Int) - ((i : Int) + 1)).toNat = ends.length - (i + 1) := by omega
        refine ⟨(i : Int) + 1, (ends.length : Nat), rfl, ⟨by omega, by omega, by omega, by omega⟩, ?_⟩
        rw [hlo]
        have pr0 : Prs K (upd Hc T (.tup [.int (i : Nat), .int (ends.getD i 0)])) acc (J i) := hpr.tk (TK.same sT)
        refine for_range (lo := (i : Int) + 1) (n := ends.length - (i + 1)) (fun m σ Hx => ∃ y6, σ = [some (.ref a), some (.ref d), some (.ref l), some (.int (i : Nat)), some (.int (ends.getD i 0)), some (.int ((dv s (ends.getD i 0)).getD (ends.getD i 0))), y6] ∧ Same H Hx ∧ ∃ acc, Hx l = some (.lst acc) ∧ Prs K Hx acc (J i ++ jrow ends s i m))
          ⟨y6, rfl, sm.trans sT, acc, sT _ _ hacc, by rw [show jrow ends s i 0 = [] from rfl, List.append_nil]; exact pr0⟩ (fun m2 σ Hx hm p => ?_) (fun σ Hx p => ?_)
        · obtain ⟨z6, rfl, sx, acc2, hacc2, hpr2⟩ := p
          have hax := seqT sx ha.sq
          have hlt : i + 1 + m2 < ends.length := by omega
          have ej : ((i : Int) + 1 + (m2 : Nat)) = ((i + 1 + m2 : Nat) : Int) := by omega
          have g2 : atI (ends.map V.int) ((i : Int) + 1 + (m2 : Nat)) = some (.int (ends.getD (i + 1 + m2) 0)) := by
            rw [ej]
            exact c_at hlt
          refine ⟨.ref a, rfl, .int ((i : Int) + 1 + (m2 : Nat)), rfl, a, _, _, _, rfl, rfl, hax, g2, .int ((dv s (ends.getD i 0)).getD (ends.getD i 0)), rfl, rfl, _, rfl, ite2 (fun e => ?_) (fun e => ?_)⟩
          · have e1 : ends.getD (i + 1 + m2) 0 = (dv s (ends.getD i 0)).getD (ends.getD i 0) := V.int.inj (of_decide_eq_true e)
            refine ⟨.ref l, rfl, .inl ⟨rfl, _, .inl (.inl hacc2)⟩, .int (i : Nat), rfl, .int ((i : Int) + 1 + (m2 : Nat)), rfl, by show 2 ≤ sizeLine; decide, fun r nr => ?_⟩
            have hl2 : upd Hx r (.tup [.int (i : Nat), .int ((i : Int) + 1 + (m2 : Nat))]) l = some (.lst acc2) := by
              rw [upd_ne (ne_of_none hacc2 nr)]
              exact hacc2
            have tk2 := TK.put (o := .lst (acc2 ++ [.ref r])) hl2 (fun _ z => nomatch z)
            have hz : acc2.length < sizeLine := by
              rw [Paired.len hpr2, List.length_append]
              have z1 := joinLen ends s i
              have z2 := jrow_len ends s i m2
              have z3 : i * ends.length ≤ 100 * 100 := Nat.mul_le_mul (by omega) hl
              exact big5 (by show ((List.range i).flatMap (joinRow ends s)).length + _ ≤ _; omega)
            refine ⟨l, acc2, .ref r, rfl, rfl, hl2, hz, _, rfl, Same.over (Same.over sx (sx.free nr)) nl, _, upd_same, ?_⟩
            rw [jrow_succ, if_pos e1, ← List.append_assoc]
            exact Paired.app (hpr2.tk (TK.trans (TK.new nr) tk2)) (.cons ⟨r, rfl, Tp.of (tk2 _ _ (by rw [upd_same, ej]))⟩ .nil)
          · have e1 : ¬ ends.getD (i + 1 + m2) 0 = (dv s (ends.getD i 0)).getD (ends.getD i 0) := fun z => e (decide_eq_true (by rw [z]))
            refine ⟨_, rfl, sx, acc2, hacc2, ?_⟩
            rw [jrow_succ, if_neg e1]
            exact hpr2
        · obtain ⟨z6, rfl, sx, acc2, hacc2, hpr2⟩ := p
          refine ⟨_, _, _, z6, rfl, sx, acc2, hacc2, ?_⟩
          show Prs K Hx acc2 ((List.range (i + 1)).flatMap (joinRow ends s))
          rw [joinTake]
          exact hpr2
    · refine .inl ⟨⟨_, hac, by rw [List.length_map]; omega⟩, ?_⟩
      have ei : i = ends.length := by omega
      subst ei
      exact ⟨.ref l, rfl, l, acc, rfl, .inl ⟨.inl (.inl hacc), fun r nr => q _ _ (Same.over sm (sm.free nr)) ⟨r, acc, rfl, Tp.of upd_same, hpr.tk (TK.new nr)⟩⟩⟩
end
end TH
end
section
set_option Elab.async false
set_option linter.all false
set_option maxRecDepth 100000
set_option maxHeartbeats 4000000
namespace TH
open PySem PySem.Spec PyProof.Rows L2
section
variable {P : Program} {w : World} {K : PySem.W.Frag} {mg : Str → Option Value} {base : Heap}
/-! ### strands_of -/
abbrev sStrandsOf : Stmt := topS 24
theorem scStrandsOf : FnScope ["joining", "strands", "one", "other"] ["joining"] (defScope sStrandsOf) := ⟨rfl, rfl, rfl, by decide +kernel, rfl, by decide +kernel, by decide +kernel⟩
def spStrandsOf (K : PySem.W.Frag) : Sp := fun vs H Q _ => ∃ x J, vs = [x] ∧ Pl K H x J ∧ J.length ≤ 400 ∧ ∀ p H', Same H H' → H p = none → H' p = some (.dK (dm (strandsOf J))) → Q (.ref p) H'
def soStep (s : PL) (p : Int × Int) : PL := dp (dp s p.1 p.2) p.2 p.1
theorem so_len : ∀ (J s : PL), (J.foldl soStep s).length ≤ s.length + 2 * J.length
  | [], s => by show s.length ≤ s.length + 2 * 0; omega
  | p :: J, s => by
    have h1 := so_len J (soStep s p)
    have h2 := dp_len s p.1 p.2
    have h3 := dp_len (dp s p.1 p.2) p.2 p.1
    show (J.foldl soStep (soStep s p)).length ≤ _
    rw [List.length_cons]
    unfold soStep at h1 ⊢
    omega
theorem ok_strandsOf {f : Addr} {fd : FuncData} {k : Nat} (F : Fun K "strands_of" "strands_of" sStrandsOf f fd) : FnOk P w K mg base CX0 (k + 1) f fd ["joining"] (spStrandsOf K) := by
  refine F.ok scStrandsOf (fun vs H Q E h => ?_) (fun cdv A outer s H vs Q E hr h => ?_)
  · obtain ⟨x, J, rfl, _⟩ := h
    rfl
  · obtain ⟨x, J, rfl, ⟨tx, xs, rfl, hx, px⟩, hl, q⟩ := h
    have hu := hu_of hr
    refine ⟨_, pss_cons (ps_set (i := 1) scStrandsOf.nd rfl (.inl rfl) pe_dnewK)
      (pss_cons (ps_for PassesOwn.never rfl (pi_tup (pv 0))
          (pg_tup rfl (pgs_cons (pg_name (i := 2) scStrandsOf.nd rfl (.inl rfl)) (pgs_cons (pg_name (i := 3) scStrandsOf.nd rfl (.inl rfl)) pgs_nil)))
        (pss_cons (ps_dput hu (pv 1) (pv 2) (pv 3) rfl) (pss_one (ps_dput hu (pv 1) (pv 3) (pv 2) rfl))))
      (pss_one (ps_ret (pv 1)))), ?_⟩
    intro p np
    have l1 : xs.length = J.length := Paired.len px
    refine ⟨.ref tx, rfl, tx, rfl, ⟨xs, (hx.tk (TK.new np)).sq⟩, for_tup (xs := xs) (fun i σ Hc => ∃ y2 y3, σ = [some (.ref tx), some (.ref p), y2, y3] ∧ Same H Hc ∧ Hc p = some (.dK (dm ((J.take i).foldl soStep []))))
      ⟨none, none, rfl, Same.new np, upd_same⟩ (fun i σ Hc hi q => ?_) (fun i x σ Hc hxi q => ?_) (fun σ Hc r => ?_)⟩
    · obtain ⟨_, _, _, sm, _⟩ := q
      exact seqT sm hx.sq
    · obtain ⟨y2, y3, rfl, sm, hp⟩ := q
      obtain ⟨t, ht, t', rfl, htp⟩ := prs_at px hxi
      have e3 : (J.take (i + 1)).foldl soStep [] = soStep ((J.take i).foldl soStep []) t := by rw [List.take_add_one, ht, List.foldl_append]; rfl
      have z := so_len (J.take i) []
      rw [List.length_take, List.length_nil] at z
      refine ⟨t', _, rfl, (htp.tk (TK.same sm)).sq, rfl, _, _, rfl, _, _, rfl, rfl, ?_⟩
      refine ⟨.int t.2, rfl, .ref p, rfl, .int t.1, rfl, p, _, rfl, DPut.k (k := Sum.inl t.1) hp (by rw [dm_len]; exact big5 (by omega)), ?_⟩
      rw [dm_put]
      have z2 := dp_len ((J.take i).foldl soStep []) t.1 t.2
      refine ⟨.int t.1, rfl, .ref p, rfl, .int t.2, rfl, p, _, rfl, DPut.k (k := Sum.inl t.2) upd_same (by rw [dm_len]; exact big5 (by omega)), ?_⟩
      rw [dm_put]
      refine ⟨some (.int t.1), some (.int t.2), rfl, Same.over (Same.over sm np) np, ?_⟩
      rw [upd_same, e3]
      rfl
    · obtain ⟨y2, y3, rfl, sm, hp⟩ := r
      rw [l1, List.take_length] at hp
      exact ⟨.ref p, rfl, q p Hc sm np hp⟩
/-! ### open_joining -/
/-- the items of a locked dict in a comprehension -/
theorem lc_items {d : Addr} {o : Obj} {kvs : List (Key × V)} {g : TG} {tt : TT} {te : TE} {vs : List Nat} {σ : L2.St} {H1 : Hp} {D : Addr} {Qd : Hp → Prop} (Pv : Nat → Hp → Prop) (h0 : Pv 0 (upd H1 D (.lst []))) (hl : ∀ i H, i ≤ kvs.length → Pv i H → H d = some (.frz o (.dK kvs)))
    (hs : ∀ i k v H T, kvs[i]? = some (k, v) → Pv i H → H T = none → g (.ref T) (wipe σ vs) (upd H T (.tup [kV k, v])) fun σ2 H2 => wipe σ2 vs = wipe σ vs ∧ tt σ2 H2 fun b H3 =>
      if b = true then te σ2 H3 fun y H4 => ∃ acc, H4 D = some (.lst acc) ∧ acc.length < sizeLine ∧ Pv (i + 1) (upd H4 D (.lst (acc ++ [y]))) else Pv (i + 1) H3) (hd : ∀ H, Pv kvs.length H → Qd H) :
    ∃ W : Nat → Nat → Hp → Prop, (∃ m, W 0 m (upd H1 D (.lst []))) ∧ ∀ i m H, W i m H →
      ((Iti d o kvs).stop i H ∧ Qd H) ∨ ((Iti d o kvs).go i H ∧ ∃ Nx : Hp → Prop, (∀ H', Nx H' → ∃ m', m' < m ∧ W (i + 1) m' H') ∧ ∀ x H', (Iti d o kvs).yld i H x H' → g x (wipe σ vs) H' fun σ2 H2 => wipe σ2 vs = wipe σ vs ∧ tt σ2 H2 fun b H3 =>
        if b = true then te σ2 H3 fun y H4 => ∃ acc, H4 D = some (.lst acc) ∧ acc.length < sizeLine ∧ Nx (upd H4 D (.lst (acc ++ [y]))) else Nx H3) := by
  refine ⟨fun i m H => m = kvs.length - i ∧ i ≤ kvs.length ∧ Pv i H, ⟨kvs.length, by simp, Nat.zero_le _, h0⟩, ?_⟩
  rintro i m H ⟨rfl, hi, p⟩
  have q := hl i H hi p
  by_cases hlt : i < kvs.length
  · refine .inr ⟨⟨q, hlt⟩, Pv (i + 1), fun H' p' => ⟨kvs.length - (i + 1), by omega, rfl, hlt, p'⟩, fun x H' y => ?_⟩
    obtain ⟨T, k, v, hy, rfl, hn, rfl⟩ := y
    exact hs i k v H T hy p hn
  · have e : i = kvs.length := by omega
    subst e
    exact .inl ⟨⟨q, Nat.le_refl _⟩, hd H p⟩
abbrev sOpenJoining : Stmt := topS 25
theorem scOpenJoining : FnScope ["strands", "one", "other"] ["strands"] (defScope sOpenJoining) := ⟨rfl, rfl, rfl, by decide +kernel, rfl, by decide +kernel, by decide +kernel⟩
def spOpenJoining (K : PySem.W.Frag) : Sp := fun vs H Q _ => ∃ d s, vs = [.ref d] ∧ H d = some (.dK (dm s)) ∧ s.length ≤ 10000 ∧ ∀ v H', Same H H' → Pl K H' v (openJoin s) → Q v H'
def kfP (H : Hp) (x : V) : Int × Int := match x with
  | .ref t => match H t with
    | some (.tup [.int a, .int b]) => (a, b)
    | _ => (0, 0)
  | _ => (0, 0)
/-- pairs that are tracked -/
def Prt (H : Hp) (v : V) (p : Int × Int) : Prop := ∃ t, v = .ref t ∧ H t = some (.tup [.int p.1, .int p.2])
theorem kfP_of {H : Hp} {v : V} {p : Int × Int} (h : Prt H v p) : kfP H v = p := by
  obtain ⟨t, rfl, e⟩ := h
  unfold kfP
  simp only [e]
theorem prt_pr {K : PySem.W.Frag} {H : Hp} {v : V} {p : Int × Int} (h : Prt H v p) : Pr K H v p := let ⟨t, a, b⟩ := h; ⟨t, a, Tp.of b⟩
theorem prt_map {H : Hp} : ∀ {vs : List V} {ps : PL}, Paired (Prt H) vs ps → vs.map (kfP H) = ps
  | _, _, .nil => rfl
  | _, _, .cons h t => by rw [List.map_cons, kfP_of h, prt_map t]
theorem prt_of {H : Hp} : ∀ {vs : List V}, (∀ x ∈ vs, Prt H x (kfP H x)) → Paired (Prt H) vs (vs.map (kfP H))
  | [], _ => .nil
  | x :: vs, h => by
    rw [List.map_cons]
    exact .cons (h x List.mem_cons_self) (prt_of fun y hy => h y (List.mem_cons_of_mem _ hy))
theorem prt_all {H : Hp} : ∀ {vs : List V} {ps : PL}, Paired (Prt H) vs ps → ∀ x ∈ vs, Prt H x (kfP H x)
  | _, _, .nil, _, h => nomatch h
  | _, _, .cons h t, x, hx => by
    rcases List.mem_cons.mp hx with e | hx
    · rw [e, kfP_of h]; exact h
    · exact prt_all t x hx
theorem ok_openJoining {f : Addr} {fd : FuncData} {k : Nat} (F : Fun K "open_joining" "open_joining" sOpenJoining f fd) (mt : mg "tuple" = none) (ms : mg "sorted" = none) : FnOk P w K mg base CX0 (k + 1) f fd ["strands"] (spOpenJoining K) := by
  refine F.ok scOpenJoining (fun vs H Q E h => ?_) (fun cdv A outer s H vs Q E hr h => ?_)
  · obtain ⟨d, s, rfl, _⟩ := h
    rfl
  · obtain ⟨d, s, rfl, hd, hl, q⟩ := h
    refine ⟨_, pss_one (ps_ret (pe_callTy call_tuple_of (by rfl) mt (by decide +kernel) (pa_cons (pe_callB cr_sortedPO (by rfl) ms (by decide +kernel) (pa_cons
        (pe_lock (pe_lc (own := [("one", 1), ("other", 2)]) (g := gTup K 2 (gCons (gName 1) (gCons (gName 2) gNil))) rfl scOpenJoining.nd (pi_items (pv 0))
          (blkOk_by (own := [("one", 1), ("other", 2)]) (N := ["strands", "one", "other"]) (sc := defScope sOpenJoining) (by decide +kernel))
          (fun _ _ _ _ _ => pg_tup rfl (pgs_cons (pg_name (i := 1) scOpenJoining.nd rfl (Or.inl rfl)) (pgs_cons (pg_name (i := 2) scOpenJoining.nd rfl (Or.inl rfl)) pgs_nil)))
          (fun _ _ _ _ _ => pts_one (pt_cmpR op_lt (pv 1) (pv 2) (nomark _)))
          (fun _ _ _ _ _ => pe_tup (pa_cons (pv 1) (pa_cons (pv 2) pa_nil))))) pa_nil)) pa_nil))), ?_⟩
    refine ⟨d, .dK (dm s), hd, True.intro, fun od => ?_⟩
    let fl : Nat → PL := fun i => (s.take i).filter fun p => decide (p.1 < p.2)
    refine ⟨.ref d, rfl, d, od, _, rfl, upd_same, fun D nD => ?_⟩
    have ndD : d ≠ D := ne_of_none upd_same nD
    have nDH : H D = none := by rw [upd_ne (Ne.symm ndD)] at nD; exact nD
    refine lc_items (fun i Hx => SameX d H Hx ∧ Hx d = some (.frz od (.dK (dm s))) ∧ ∃ acc, Hx D = some (.lst acc) ∧ Paired (Prt Hx) acc (fl i)) ⟨fun b o nb e => ?_, ?_, [], upd_same, .nil⟩ (fun i Hx hi p => p.2.1) (fun i k v Hx T hkv p nT => ?_) (fun Hx p => ?_)
    · rw [upd_ne (ne_of_none e nDH), upd_ne nb]
      exact e
    · rw [upd_ne ndD, upd_same]
    · obtain ⟨sx, hdx, acc, hacc, hpr⟩ := p
      unfold dm at hkv
      rw [List.getElem?_map] at hkv
      obtain ⟨t, ht, et⟩ := Option.map_eq_some_iff.mp hkv
      cases et
      have sT : Same Hx (upd Hx T (.tup [kV (Sum.inl t.1), .int t.2])) := Same.new nT
      have e3 : fl (i + 1) = if t.1 < t.2 then fl i ++ [t] else fl i := by
        show (s.take (i + 1)).filter _ = _
        rw [List.take_add_one, ht, List.filter_append]
        by_cases c : t.1 < t.2
        · rw [if_pos c]
          simp [List.filter_cons, c, fl]
        · rw [if_neg c]
          simp [List.filter_cons, c, fl]
      refine ⟨T, _, rfl, .inl (.inl upd_same), rfl, _, _, rfl, _, _, rfl, rfl, rfl, ?_⟩
      refine ⟨.int t.1, rfl, .int t.2, rfl, t.1, t.2, rfl, rfl, _, rfl, ite2 (fun e => ?_) (fun e => ?_)⟩
      · have c : t.1 < t.2 := of_decide_eq_true e
        refine ⟨.int t.1, rfl, .int t.2, rfl, by show 2 ≤ sizeLine; decide, fun r nr => ⟨acc, ?_, ?_, ?_, ?_, _, upd_same, ?_⟩⟩
        · rw [upd_ne (ne_of_none (sT _ _ hacc) nr)]
          exact sT _ _ hacc
        · rw [Paired.len hpr]
          refine big5 (Nat.le_trans (List.length_filter_le _ _) ?_)
          rw [List.length_take]
          omega
        · intro b o nb eb
          rw [upd_ne (ne_of_none eb nDH)]
          exact (Same.new nr) _ _ (sT _ _ (sx b o nb eb))
        · rw [upd_ne ndD]
          exact (Same.new nr) _ _ (sT _ _ hdx)
        · rw [e3, if_pos c]
          have s3 : ∀ b xs, Hx b = some (.tup xs) → upd (upd (upd Hx T (.tup [kV (Sum.inl t.1), .int t.2])) r (.tup [.int t.1, .int t.2])) D (.lst (acc ++ [.ref r])) b = some (.tup xs) := fun b xs eb => by
            rw [upd_ne (fun z => by rw [z, hacc] at eb; cases eb)]
            exact (Same.new nr) _ _ (sT _ _ eb)
          refine Paired.app (Paired.mapP hpr fun x p h => ?_) (.cons ⟨r, rfl, ?_⟩ .nil)
          · obtain ⟨t2, e1, e2⟩ := h
            exact ⟨t2, e1, s3 _ _ e2⟩
          · rw [upd_ne (fun z => by rw [z] at nr; rw [sT _ _ hacc] at nr; cases nr), upd_same]
      · have c : ¬ t.1 < t.2 := fun z => e (decide_eq_true z)
        rw [e3, if_neg c]
        exact ⟨sx.trans (SameX.of sT), sT _ _ hdx, acc, sT _ _ hacc, Paired.mapP hpr fun x p h => let ⟨t2, e1, e2⟩ := h; ⟨t2, e1, sT _ _ e2⟩⟩
    · obtain ⟨sx, hdx, acc, hacc, hpr⟩ := p
      rw [dm_len] at hpr
      have hfl : fl s.length = s.filter fun p => decide (p.1 < p.2) := by
        show (s.take s.length).filter _ = _
        rw [List.take_length]
      rw [hfl] at hpr
      refine ⟨hdx, ?_⟩
      -- unlocked
      let H2 := upd Hx d (.dK (dm s))
      have sH : Same H H2 := fun b o e => by
        by_cases nb : b = d
        · rw [nb] at e ⊢
          show upd Hx d (.dK (dm s)) d = some o
          rw [upd_same, ← e, hd]
        · show upd Hx d (.dK (dm s)) b = some o
          rw [upd_ne nb]
          exact sx b o nb e
      have hacc2 : H2 D = some (.lst acc) := by
        show upd Hx d (.dK (dm s)) D = _
        rw [upd_ne (Ne.symm ndD)]
        exact hacc
      have hpr2 : Paired (Prt H2) acc (s.filter fun p => decide (p.1 < p.2)) := Paired.mapP hpr fun x p h => by
        obtain ⟨t2, e1, e2⟩ := h
        refine ⟨t2, e1, ?_⟩
        show upd Hx d (.dK (dm s)) t2 = _
        rw [upd_ne (fun z => by rw [z, hdx] at e2; cases e2)]
        exact e2
      refine ⟨D, acc, kfP H2, rfl, .inl (.inl hacc2), prt_all hpr2, fun ys p hs hst np => ?_⟩
      have hperm : (ys.map (kfP H2)).Perm (s.filter fun p => decide (p.1 < p.2)) := by
        rw [← prt_map hpr2]
        exact hst.perm.map _
      have hys : Paired (Prt H2) ys (ys.map (kfP H2)) := prt_of fun x hx => prt_all hpr2 x (hst.perm.mem_iff.mp hx)
      have hsort : (ys.map (kfP H2)).Pairwise leQ := by
        rw [List.pairwise_map]
        refine List.Pairwise.imp (fun {x y} h => ?_) hs
        unfold leQ
        have a := SrtO.lexB_no.mp h
        omega
      have e : ys.map (kfP H2) = openJoin s := sortP_unique hperm hsort
      rw [e] at hys
      refine ⟨p, ys, rfl, .inl ⟨.inl (.inl upd_same), fun r nr => ?_⟩⟩
      have s4 : Same H2 (upd (upd H2 p (.lst ys)) r (.tup ys)) := (Same.new np).trans (Same.new nr)
      exact q _ _ (sH.trans s4) ⟨r, ys, rfl, Tp.of upd_same, Prs.tk (K := K) (Paired.mapP hys fun _ _ z => prt_pr z) (TK.same s4)⟩
end
end TH
end
section
set_option Elab.async false
set_option linter.all false
set_option maxRecDepth 100000
set_option maxHeartbeats 4000000
namespace TH
open PySem PySem.Spec PyProof.Rows L2
section
variable {P : Program} {w : World} {K : PySem.W.Frag} {mg : Str → Option Value} {base : Heap}
/-! ### open_behind -/
/-- a dict that stands for a set of arcs -/
def am (l : List Int) : List (Key × V) := l.map fun a => (Sum.inl a, V.bl true)
theorem am_len (l : List Int) : (am l).length = l.length := by unfold am; rw [List.length_map]
theorem am_val (k : Int) : ∀ l : List Int, valV (am l) (Sum.inl k) = if k ∈ l then some (.bl true) else none
  | [] => rfl
  | a :: l => by
    show valV ((Sum.inl a, V.bl true) :: am l) (Sum.inl k) = _
    by_cases e : a = k
    · rw [valV_pos (by show (Sum.inl a : Key) = Sum.inl k; rw [e]), if_pos (by rw [e]; exact List.mem_cons_self)]
    · rw [valV_neg (show ¬ (Sum.inl a : Key) = Sum.inl k from inl_ne e), am_val k l]
      by_cases m : k ∈ l
      · rw [if_pos m, if_pos (List.mem_cons_of_mem _ m)]
      · rw [if_neg m, if_neg fun z => (List.mem_cons.mp z).elim (fun y => e y.symm) m]
theorem am_put {l : List Int} {k : Int} (h : k ∉ l) : putK (am l) (Sum.inl k) (.bl true) = am (l ++ [k]) := by
  rw [putK_new _ (by rw [am_val, if_neg h])]
  unfold am
  rw [List.map_append]
  rfl
theorem am_drop (l : List Int) (k : Int) : dropK (am l) (Sum.inl k) = am (l.filter fun x => decide (x ≠ k)) := by
  unfold dropK am
  induction l with
  | nil => rfl
  | cons a l ih =>
    rw [List.map_cons, List.filter_cons, List.filter_cons]
    by_cases e : a = k
    · rw [if_neg (by simp [e]), if_neg (by simp [e]), ih]
    · rw [if_pos (by simp [e]), if_pos (by simp [e]), List.map_cons, ih]
def obStep (f : List Int) (a : Int) : List Int := if a ∈ f then f.filter (fun x => decide (x ≠ a)) else f ++ [a]
theorem obStep_in {f : List Int} {a : Int} (h : a ∈ f) : obStep f a = f.filter (fun x => decide (x ≠ a)) := if_pos h
theorem obStep_out {f : List Int} {a : Int} (h : a ∉ f) : obStep f a = f ++ [a] := if_neg h
theorem ob_len : ∀ (c f : List Int), (c.foldl obStep f).length ≤ f.length + c.length
  | [], f => by show f.length ≤ f.length + 0; omega
  | a :: c, f => by
    have h1 := ob_len c (obStep f a)
    have h2 : (obStep f a).length ≤ f.length + 1 := by
      unfold obStep
      split
      · exact Nat.le_trans (List.length_filter_le _ _) (by omega)
      · rw [List.length_append]; exact Nat.le_refl _
    show (c.foldl obStep (obStep f a)).length ≤ _
    rw [List.length_cons]
    omega
abbrev sOpenBehind : Stmt := topS 20
theorem scOpenBehind : FnScope ["arcs", "crossing", "found", "arc"] ["arcs", "crossing"] (defScope sOpenBehind) := ⟨rfl, rfl, rfl, by decide +kernel, rfl, by decide +kernel, by decide +kernel⟩
def spOpenBehind (K : PySem.W.Frag) : Sp := fun vs H Q _ => ∃ d a l c, vs = [.ref d, .ref a] ∧ H d = some (.dK (am l)) ∧ l.length ≤ 10000 ∧ Tp K H a (c.map V.int) ∧ c.length = 4 ∧ ∀ p H', Same H H' → H p = none → H' p = some (.dK (am (openB l c))) → Q (.ref p) H'
theorem ok_openBehind {f : Addr} {fd : FuncData} {k : Nat} (F : Fun K "open_behind" "open_behind" sOpenBehind f fd) : FnOk P w K mg base CX0 (k + 1) f fd ["arcs", "crossing"] (spOpenBehind K) := by
  refine F.ok scOpenBehind (fun vs H Q E h => ?_) (fun cdv A outer s H vs Q E hr h => ?_)
  · obtain ⟨d, a, l, c, rfl, _⟩ := h
    rfl
  · obtain ⟨d, a, l, c, rfl, hd, hl, ha, hc, q⟩ := h
    have hu := hu_of hr
    refine ⟨_, pss_cons (ps_set (i := 2) scOpenBehind.nd rfl (.inl rfl) (pe_bm0 PySem.F.plainAttrs_dict PySem.F.slot_dict_copy PySem.F.type_dict_copy mt_copyK (pv 0)))
      (pss_cons (ps_for PassesOwn.never rfl (pi_tup (pv 1)) (pg_name (i := 3) scOpenBehind.nd rfl (.inl rfl))
        (pss_one (ps_if (pt_cmp (pc_din hu (pv 3) (pv 2)) rfl)
          (pss_one (ps_expr (pe_dpop1 (pv 2) (pv 3) ⟨rfl, rfl, rfl, rfl⟩)))
          (pss_one (ps_dput hu (pv 2) (pv 3) pe_bl rfl)))))
      (pss_one (ps_ret (pv 2)))), ?_⟩
    refine ⟨.ref d, rfl, .inr (.inr (.inl ⟨rfl, .inl ⟨_, hd⟩⟩)), d, _, rfl, rfl, hd, fun p np => ?_⟩
    refine ⟨.ref a, rfl, a, rfl, ⟨_, (ha.tk (TK.new np)).sq⟩, for_tup (xs := c.map V.int) (fun i σ Hc => ∃ y3, σ = [some (.ref d), some (.ref a), some (.ref p), y3] ∧ Same H Hc ∧ Hc p = some (.dK (am ((c.take i).foldl obStep l))))
      ⟨none, rfl, Same.new np, upd_same⟩ (fun i σ Hc hi q => ?_) (fun i x σ Hc hxi q => ?_) (fun σ Hc r => ?_)⟩
    · obtain ⟨_, _, sm, _⟩ := q
      exact seqT sm ha.sq
    · obtain ⟨y3, rfl, sm, hp⟩ := q
      rw [List.getElem?_map] at hxi
      obtain ⟨t, ht, rfl⟩ := Option.map_eq_some_iff.mp hxi
      have e3 : (c.take (i + 1)).foldl obStep l = obStep ((c.take i).foldl obStep l) t := by rw [List.take_add_one, ht, List.foldl_append]; rfl
      have hv := am_val t ((c.take i).foldl obStep l)
      have z := ob_len (c.take i) l
      rw [List.length_take] at z
      refine ⟨.int t, rfl, .ref p, rfl, p, _, rfl, DGet.k (k := Sum.inl t) hp, _, rfl, ?_⟩
      by_cases m : t ∈ (c.take i).foldl obStep l
      · rw [if_pos m] at hv
        rw [hv]
        refine iteT ⟨.ref p, rfl, p, rfl, .inl ⟨_, .inl hp⟩, .int t, rfl, _, Sum.inl t, _, hp, rfl, hv, ?_⟩
        rw [am_drop]
        refine ⟨some (.int t), rfl, Same.over sm np, ?_⟩
        rw [upd_same, e3, obStep_in m]
      · rw [if_neg m] at hv
        rw [hv]
        refine iteF ⟨.ref p, rfl, .int t, rfl, p, _, rfl, DPut.k (k := Sum.inl t) hp (by rw [am_len]; exact big5 (by omega)), ?_⟩
        rw [am_put m]
        refine ⟨some (.int t), rfl, Same.over sm np, ?_⟩
        rw [upd_same, e3, obStep_out m]
    · obtain ⟨y3, rfl, sm, hp⟩ := r
      rw [List.length_map, List.take_length] at hp
      exact ⟨.ref p, rfl, q p Hc sm np hp⟩
end
end TH
end
section
set_option Elab.async false
set_option linter.all false
set_option maxRecDepth 100000
set_option maxHeartbeats 4000000
namespace TH
open PySem PySem.Spec PyProof.Rows L2
/-! ### webs as they stand in the heap -/
def CsAt (K : PySem.W.Frag) (H : Hp) (a : Addr) (cs : List (List Int)) : Prop := ∃ as : List Addr, Tp K H a (as.map V.ref) ∧ Paired (fun a c => Tp K H a (c.map V.int)) as cs
def WebAt (K : PySem.W.Frag) (H : Hp) (v : V) (cs : List (List Int)) (ends : List Int) (rings : Nat) : Prop :=
  ∃ wa ac ae, v = .ref wa ∧ Tp K H wa [.ref ac, .ref ae, .int rings] ∧ CsAt K H ac cs ∧ Tp K H ae (ends.map V.int)
theorem CsAt.tk {K : PySem.W.Frag} {H H' : Hp} {a : Addr} {cs : List (List Int)} (h : CsAt K H a cs) (t : TK H H') : CsAt K H' a cs := let ⟨as, x, y⟩ := h; ⟨as, x.tk t, Paired.mapP y fun _ _ z => z.tk t⟩
theorem WebAt.tk {K : PySem.W.Frag} {H H' : Hp} {v : V} {cs : List (List Int)} {ends : List Int} {rings : Nat} (h : WebAt K H v cs ends rings) (t : TK H H') : WebAt K H' v cs ends rings :=
  let ⟨wa, ac, ae, e, x, y, z⟩ := h; ⟨wa, ac, ae, e, x.tk t, y.tk t, z.tk t⟩
theorem cs_get {K : PySem.W.Frag} {H : Hp} {as : List Addr} {cs : List (List Int)} (h : Paired (fun a c => Tp K H a (c.map V.int)) as cs) {k : Nat} (hk : k < cs.length) : ∃ a, (as.map V.ref)[k]? = some (.ref a) ∧ Tp K H a ((cs.getD k []).map V.int) := by
  have e : as.length = cs.length := Paired.len h
  obtain ⟨c, hc, ht⟩ := paired_get h (i := k) (a := as[k]) (List.getElem?_eq_getElem (by omega))
  refine ⟨as[k], by rw [List.getElem?_map, List.getElem?_eq_getElem (by omega)]; rfl, ?_⟩
  rw [List.getD_eq_getElem?_getD, hc]
  exact ht
def TakE (H : Hp) (v : V) (e : Nat × List Int) : Prop := ∃ t d, v = .ref t ∧ H t = some (.tup [.int (e.1 : Nat), .ref d]) ∧ H d = some (.dK (am e.2))
/-- tuples and dicts stay -/
def TD (H H' : Hp) : Prop := ∀ a, (∀ xs, H a = some (.tup xs) → H' a = some (.tup xs)) ∧ ∀ k, H a = some (.dK k) → H' a = some (.dK k)
theorem TD.same {H H' : Hp} (s : Same H H') : TD H H' := fun a => ⟨fun _ e => s _ _ e, fun _ e => s _ _ e⟩
theorem TD.trans {H H' H'' : Hp} (s : TD H H') (t : TD H' H'') : TD H H'' := fun a => ⟨fun xs e => (t a).1 _ ((s a).1 _ e), fun xs e => (t a).2 _ ((s a).2 _ e)⟩
theorem TD.lst {H : Hp} {l : Addr} {xs ys : List V} (h : H l = some (.lst xs)) : TD H (upd H l (.lst ys)) := fun a =>
  ⟨fun z e => by rw [upd_ne (fun w => by rw [w, h] at e; cases e)]; exact e, fun z e => by rw [upd_ne (fun w => by rw [w, h] at e; cases e)]; exact e⟩
theorem TakE.td {H H' : Hp} {v : V} {e : Nat × List Int} (h : TakE H v e) (s : TD H H') : TakE H' v e := let ⟨t, d, a, b, c⟩ := h; ⟨t, d, a, (s _).1 _ b, (s _).2 _ c⟩
theorem TakE.same {H H' : Hp} {v : V} {e : Nat × List Int} (h : TakE H v e) (s : Same H H') : TakE H' v e := let ⟨t, d, a, b, c⟩ := h; ⟨t, d, a, s _ _ b, s _ _ c⟩
theorem erase_at {k : Nat} : ∀ {L : List Nat}, k ∈ L → ∃ j, L[j]? = some k ∧ (∀ m, m < j → L[m]? ≠ some k) ∧ L.eraseIdx j = L.erase k
  | [], h => nomatch h
  | a :: L, h => by
    by_cases e : a = k
    · exact ⟨0, by rw [e]; rfl, fun m hm => absurd hm (Nat.not_lt_zero m), by rw [e, List.erase_cons_head]; rfl⟩
    · have h' : k ∈ L := (List.mem_cons.mp h).resolve_left fun z => e z.symm
      obtain ⟨j, h1, h2, h3⟩ := erase_at h'
      refine ⟨j + 1, h1, fun m hm => ?_, ?_⟩
      · cases m with
        | zero => exact fun z => e (Option.some.inj z)
        | succ m => exact h2 m (by omega)
      · rw [List.erase_cons_tail (by simpa using e), ← h3]
        rfl
theorem ix_tupK {X : Cx} (K : PySem.W.Frag) (h : X.K = K) : IxR X (rIxT K) := h ▸ ix_tup
section
variable {P : Program} {w : World} {K : PySem.W.Frag} {mg : Str → Option Value} {base : Heap}
abbrev sTakings : Stmt := topS 21
theorem scTakings : FnScope ["web", "found", "arcs", "left", "number", "k"] ["web"] (defScope sTakings) := ⟨rfl, rfl, rfl, by decide +kernel, rfl, by decide +kernel, by decide +kernel⟩
def spTakings (K : PySem.W.Frag) : Sp := fun vs H Q _ => ∃ x cs ends rings, vs = [x] ∧ WebAt K H x cs ends rings ∧ cs.length ≤ 100 ∧ (∀ c ∈ cs, c.length = 4) ∧
  ∀ p H' res xs, Same H H' → H p = none → Tak cs [] (List.range cs.length) res → H' p = some (.lst xs) → Paired (TakE H') xs res → Q (.ref p) H'
def iv (L : List Nat) : List V := (L.map fun k => ((k : Nat) : Int)).map V.int
theorem iv_len (L : List Nat) : (iv L).length = L.length := by unfold iv; rw [List.length_map, List.length_map]
def keyL (cs : List (List Int)) (A : List Int) (L : List Nat) : PL := L.map fun k => (((openB A (cs.getD k [])).length : Int), (k : Int))
theorem tak_next {cs : List (List Int)} {A0 A : List Int} {L0 L : List Nat} {R : List (Nat × List Int)} (h : ∀ rest, Tak cs A L rest → Tak cs A0 L0 (R ++ rest)) {k : Nat} (hb : Best cs A L k) :
    ∀ rest, Tak cs (openB A (cs.getD k [])) (L.erase k) rest → Tak cs A0 L0 ((R ++ [(k, openB A (cs.getD k []))]) ++ rest) := fun rest t => by
  rw [List.append_assoc]
  exact h _ (.cons hb t)
theorem iv_at {L : List Nat} {i : Nat} {x : V} (h : (iv L)[i]? = some x) : ∃ k, L[i]? = some k ∧ x = .int (k : Nat) := by
  unfold iv at h
  rw [List.map_map, List.getElem?_map] at h
  obtain ⟨k, a, b⟩ := Option.map_eq_some_iff.mp h
  exact ⟨k, a, b.symm⟩
theorem iv_range (n : Nat) : rgV 0 (n : Int) = iv (List.range n) := by
  unfold rgV iv
  rw [List.map_map, show ((n : Int) - 0).toNat = n by omega]
  refine List.map_congr_left fun i _ => ?_
  show V.int (0 + (i : Int)) = V.int (i : Int)
  rw [Int.zero_add]
theorem keyL_take {cs : List (List Int)} {A : List Int} {L : List Nat} {i k : Nat} (h : L[i]? = some k) : keyL cs A (L.take (i + 1)) = keyL cs A (L.take i) ++ [(((openB A (cs.getD k [])).length : Int), (k : Int))] := by
  unfold keyL
  rw [List.take_add_one, h, List.map_append]
  rfl
theorem keyL_best {cs : List (List Int)} {A : List Int} {L : List Nat} {m : Int × Int} (hm : m ∈ keyL cs A L) (h : ∀ y ∈ keyL cs A L, leP m y) : ∃ k, m.2 = (k : Nat) ∧ Best cs A L k := by
  unfold keyL at hm h
  obtain ⟨k, hk, rfl⟩ := List.mem_map.mp hm
  refine ⟨k, rfl, hk, fun j hj => ?_⟩
  have z := h _ (List.mem_map.mpr ⟨j, hj, rfl⟩)
  unfold leP at z
  dsimp only at z
  omega
theorem openB_len (A c : List Int) : (openB A c).length ≤ A.length + c.length := ob_len c A
theorem erase_map {α β : Type} (g : α → β) : ∀ (L : List α) (j : Nat), (L.map g).eraseIdx j = (L.eraseIdx j).map g
  | [], _ => rfl
  | _ :: _, 0 => rfl
  | a :: L, j + 1 => by
    show g a :: (L.map g).eraseIdx j = g a :: (L.eraseIdx j).map g
    rw [erase_map g L j]
theorem len4 {cs : List (List Int)} (h : ∀ c ∈ cs, c.length = 4) {k : Nat} (hk : k < cs.length) : (cs.getD k []).length = 4 := by
  rw [List.getD_eq_getElem?_getD, List.getElem?_eq_getElem hk]
  exact h _ (List.getElem_mem hk)
theorem ok_takings {f : Addr} {fd : FuncData} {k : Nat} (F : Fun K "takings" "takings" sTakings f fd) (G : Cal P w K mg base k "open_behind" ["arcs", "crossing"] (spOpenBehind K)) (ml : mg "list" = none) (mr : mg "range" = none) (mn : mg "len" = none) (mm : mg "min" = none) :
    FnOk P w K mg base CX0 (k + 1) f fd ["web"] (spTakings K) := by
  refine F.ok scTakings (fun vs H Q E h => ?_) (fun cdv A outer s H vs Q E hr h => ?_)
  · obtain ⟨x, cs, ends, rings, rfl, _⟩ := h
    rfl
  · obtain ⟨x, cs, ends, rings, rfl, ⟨wa, ac, ae, rfl, hwa, ⟨as, hac, hcs⟩, hae⟩, hl, h4, q⟩ := h
    have hu := hu_of hr
    have hu6 := hu64 hr
    refine ⟨_, pss_cons (ps_set (i := 1) scTakings.nd rfl (.inl rfl) (pe_lst pa_nil))
      (pss_cons (ps_set (i := 2) scTakings.nd rfl (.inr rfl) pe_dnewK)
      (pss_cons (ps_set (i := 3) scTakings.nd rfl (.inl rfl) (pe_listRg rfl (by rfl) ml (prg_1 (by rfl) mr (pe_callB call_len (by rfl) mn PySem.boot_len (pa_cons (pe_ix ix_tup (pv 0) pe_int (fun _ _ => rfl)) pa_nil)))))
      (pss_cons (ps_while PassesOwn.never (pt_cmpR op_gt (pe_callB call_len (by rfl) mn PySem.boot_len (pa_cons (pv 3) pa_nil)) pe_int (nomark _))
        (pss_cons (ps_set (i := 4) scTakings.nd rfl (.inl rfl) (pe_ix ix_tup (pe_callB (cr_minP rfl hu6) (by rfl) mm (by decide +kernel) (pa_cons
            (pe_lc (own := [("k", 5)]) (g := gName 5) rfl scTakings.nd (pi_list (pv 3))
              (blkOk_by (own := [("k", 5)]) (N := ["web", "found", "arcs", "left", "number", "k"]) (sc := defScope sTakings) (by decide +kernel))
              (fun _ _ _ _ _ => pg_name (i := 5) scTakings.nd rfl (Or.inl rfl)) (fun _ _ _ _ _ => pts_nil)
              (fun _ _ _ _ _ => pe_tup (pa_cons (pe_callB call_lenD (by rfl) mn PySem.boot_len (pa_cons (pe_cal G hr (by rfl) (pa_cons (pv 2) (pa_cons (pe_ix (ix_tupK K rfl) (pe_ix (ix_tupK K rfl) (pv 0) pe_int (fun _ _ => rfl)) (pv 5) (fun _ _ => rfl)) pa_nil))) pa_nil)) (pa_cons (pv 5) pa_nil)))) pa_nil)) pe_int (fun _ _ => rfl)))
        (pss_cons (ps_set (i := 2) scTakings.nd rfl (.inr rfl) (pe_cal G hr (by rfl) (pa_cons (pv 2) (pa_cons (pe_ix ix_tup (pe_ix ix_tup (pv 0) pe_int (fun _ _ => rfl)) (pv 4) (fun _ _ => rfl)) pa_nil))))
        (pss_cons (ps_expr (pe_bm PySem.F.plainAttrs_list PySem.F.slot_list_remove PySem.F.type_list_remove mt_remove (pv 3) (pa_cons (pv 4) pa_nil)))
        (pss_one (ps_expr (pe_bm PySem.F.plainAttrs_list PySem.F.slot_list_append PySem.F.type_list_append mt_append (pv 1) (pa_cons (pe_tup (pa_cons (pv 4) (pa_cons (pv 2) pa_nil))) pa_nil))))))))
      (pss_one (ps_ret (pv 1)))))), ?_⟩
    refine ⟨Nat.zero_le _, fun p np => ?_⟩
    intro d nd
    have hl2 : as.length = cs.length := Paired.len hcs
    have sp : Same H (upd H p (.lst [])) := Same.new np
    have nd0 : H d = none := sp.free nd
    have s1 : Same H (upd (upd H p (.lst [])) d (.dK [])) := Same.over sp nd0
    have hac1 : Tp K (upd (upd H p (.lst [])) d (.dK [])) ac (as.map V.ref) := hac.tk (TK.same s1)
    refine ⟨.ref wa, rfl, wa, _, 0, _, rfl, rfl, (hwa.tk (TK.same s1)).sq, rfl, .ref ac, cs.length, rfl, .inr ⟨_, hac1.sq, by rw [List.length_map, hl2]⟩, (cs.length : Int), rfl, RgOk.of_le (by omega) (by omega) (by omega) (by omega), fun l nl => ?_⟩
    have nl0 : H l = none := s1.free nl
    have ndp : d ≠ p := fun e => by rw [e, upd_same] at nd; cases nd
    have npl : p ≠ l := fun e => by rw [← e, upd_ne (Ne.symm ndp), upd_same] at nl; cases nl
    have ndl : d ≠ l := fun e => by rw [← e, upd_same] at nl; cases nl
    rw [iv_range]
    refine ⟨fun m σ Hc => ∃ da y4 A L R xs, σ = [some (.ref wa), some (.ref p), some (.ref da), some (.ref l), y4, none] ∧ m = L.length ∧ Same H Hc ∧ Hc da = some (.dK (am A)) ∧ A.length ≤ 4 * R.length ∧ Hc l = some (.lst (iv L)) ∧
      Hc p = some (.lst xs) ∧ Paired (TakE Hc) xs R ∧ (∀ rest, Tak cs A L rest → Tak cs [] (List.range cs.length) (R ++ rest)) ∧ (∀ k ∈ L, k < cs.length) ∧ R.length + L.length = cs.length,
      ⟨cs.length, d, none, [], List.range cs.length, [], [], rfl, by rw [List.length_range], Same.over s1 nl0, ?_, Nat.le_refl _, upd_same, ?_, .nil, fun rest t => t, fun k hk => List.mem_range.mp hk, by rw [List.length_range]; exact Nat.zero_add _⟩, fun m σ Hc pv => ?_⟩
    · rw [upd_ne ndl, upd_same]
      rfl
    · rw [upd_ne npl, upd_ne (Ne.symm ndp), upd_same]
    obtain ⟨da, y4, A, L, R, xs, rfl, rfl, sm, hda, hAl, hL, hp, hR, hT, hin, hlen⟩ := pv
    refine ⟨.ref l, rfl, .ref l, L.length, rfl, .inl ⟨_, .inl (.inl hL), (iv_len L).symm⟩, (L.length : Int), 0, rfl, rfl, _, rfl, ite2 (fun e => ?_) (fun e => ?_)⟩
    · have hL0 : 0 < L.length := by have := of_decide_eq_true e; omega
      refine ⟨fun σ' H' => ∃ da y4 A' L' R' xs', σ' = [some (.ref wa), some (.ref p), some (.ref da), some (.ref l), y4, none] ∧ L'.length < L.length ∧ Same H H' ∧ H' da = some (.dK (am A')) ∧ A'.length ≤ 4 * R'.length ∧ H' l = some (.lst (iv L')) ∧
        H' p = some (.lst xs') ∧ Paired (TakE H') xs' R' ∧ (∀ rest, Tak cs A' L' rest → Tak cs [] (List.range cs.length) (R' ++ rest)) ∧ (∀ k ∈ L', k < cs.length) ∧ R'.length + L'.length = cs.length, fun σ' H' hN => ?_, ?_⟩
      · obtain ⟨da', y4', A', L', R', xs', e1, e2, r⟩ := hN
        exact ⟨L'.length, e2, da', y4', A', L', R', xs', e1, rfl, r⟩
      · -- the list of the numbers of open arcs
        have hAb : A.length ≤ 10000 := by omega
        have ndaD : ∀ Hx, Same Hc Hx → Hx da = some (.dK (am A)) := fun Hx s => s _ _ hda
        refine ⟨.ref l, rfl, l, rfl, ⟨_, .inl (.inl hL)⟩, fun D nD => lc_list (xs := iv L) (fun i Hx => Same Hc Hx ∧ ∃ acc, Hx D = some (.lst acc) ∧ Prs K Hx acc (keyL cs A (L.take i))) ⟨Same.new nD, [], upd_same, .nil⟩ (fun i Hx hi p => .inl (.inl (p.1 _ _ hL))) (fun i x Hx hx p => ?_) (fun Hx p => ?_)⟩
        · obtain ⟨sx, acc, hacc, hpr⟩ := p
          obtain ⟨k, hk, rfl⟩ := iv_at hx
          have hkc : k < cs.length := hin k (List.mem_of_getElem? hk)
          have sHx : Same H Hx := sm.trans sx
          have tkx := TK.same sHx
          have hcx := Paired.mapP hcs fun a c (z : Tp K H a (c.map V.int)) => z.tk tkx
          obtain ⟨ak, g1, hak⟩ := cs_get hcx hkc
          refine ⟨rfl, lcYes ⟨.ref da, rfl, .ref wa, rfl, wa, _, 0, _, rfl, rfl, (hwa.tk tkx).sq, rfl, .int (k : Nat), rfl, ac, _, (k : Nat), _, rfl, rfl, (hac.tk tkx).sq, atI_nat g1, da, ak, A, cs.getD k [], rfl, sx _ _ hda, hAb, hak, len4 h4 hkc, fun p2 H2 s2 np2 hp2 => ?_⟩⟩
          refine ⟨p2, _, rfl, hp2, .int (k : Nat), rfl, by show 2 ≤ sizeLine; decide, fun r nr => ⟨acc, ?_, ?_, ?_, _, upd_same, ?_⟩⟩
          · rw [upd_ne (ne_of_none (s2 _ _ hacc) nr)]
            exact s2 _ _ hacc
          · rw [Paired.len hpr]
            unfold keyL
            rw [List.length_map, List.length_take]
            exact big5 (by omega)
          · exact Same.over (Same.over (sx.trans s2) (sx.free (s2.free nr))) nD
          · rw [keyL_take hk, am_len]
            have hD2 : upd H2 r (.tup [.int ((openB A (cs.getD k [])).length : Nat), .int (k : Nat)]) D = some (.lst acc) := by
              rw [upd_ne (ne_of_none (s2 _ _ hacc) nr)]
              exact s2 _ _ hacc
            have tk2 := TK.put (o := .lst (acc ++ [.ref r])) hD2 (fun _ z => nomatch z)
            exact Paired.app (hpr.tk (TK.trans (TK.trans (TK.same s2) (TK.new nr)) tk2)) (.cons ⟨r, rfl, Tp.of (tk2 _ _ upd_same)⟩ .nil)
        · obtain ⟨sx, acc, hacc, hpr⟩ := p
          rw [iv_len, List.take_length] at hpr
          refine ⟨D, acc, keyL cs A L, rfl, .inl (.inl hacc), hpr, ?_, fun m v hm hmin hv => ?_⟩
          · intro z
            have := congrArg List.length z
            unfold keyL at this
            rw [List.length_map] at this
            exact absurd this (by show L.length ≠ 0; omega)
          · obtain ⟨t, rfl, ht⟩ := hv
            obtain ⟨k, ek, hb⟩ := keyL_best hm hmin
            refine ⟨t, _, 1, .int m.2, rfl, rfl, ht.sq, rfl, ?_⟩
            rw [ek]
            have hkc : k < cs.length := hin k hb.1
            have sHx : Same H Hx := sm.trans sx
            have tkx := TK.same sHx
            have hcx := Paired.mapP hcs fun a c (z : Tp K H a (c.map V.int)) => z.tk tkx
            obtain ⟨ak, g1, hak⟩ := cs_get hcx hkc
            -- the arcs open behind it
            refine ⟨.ref da, rfl, .ref wa, rfl, wa, _, 0, _, rfl, rfl, (hwa.tk tkx).sq, rfl, .int (k : Nat), rfl, ac, _, (k : Nat), _, rfl, rfl, (hac.tk tkx).sq, atI_nat g1, da, ak, A, cs.getD k [], rfl, sx _ _ hda, hAb, hak, len4 h4 hkc, fun p2 H2 s2 np2 hp2 => ?_⟩
            have sH2 : Same H H2 := sHx.trans s2
            have hL2 : H2 l = some (.lst (iv L)) := s2 _ _ (sx _ _ hL)
            obtain ⟨j, e1, e2, e3⟩ := erase_at hb.1
            refine ⟨.ref l, rfl, .inl ⟨rfl, _, .inl (.inl hL2)⟩, .int (k : Nat), rfl, l, L.map fun k => ((k : Nat) : Int), (k : Nat), j, rfl, rfl, hL2, ?_, ?_, ?_⟩
            · rw [List.getElem?_map, e1]
              rfl
            · intro m2 hm2 z
              rw [List.getElem?_map] at z
              obtain ⟨k2, z1, z2⟩ := Option.map_eq_some_iff.mp z
              have : k2 = k := by omega
              exact e2 m2 hm2 (by rw [z1, this])
            have e4 : ((L.map fun k => ((k : Nat) : Int)).eraseIdx j).map V.int = iv (L.erase k) := by
              rw [← e3]
              unfold iv
              rw [erase_map]
            rw [e4]
            let H3 := upd H2 l (.lst (iv (L.erase k)))
            have hp3 : H3 p = some (.lst xs) := by
              show upd H2 l _ p = _
              rw [upd_ne npl]
              exact s2 _ _ (sx _ _ hp)
            have hlp : L.erase k ≠ L := fun z => by
              have := congrArg List.length z
              rw [List.length_erase_of_mem hb.1] at this
              omega
            refine ⟨.ref p, rfl, .inl ⟨rfl, _, .inl (.inl hp3)⟩, .int (k : Nat), rfl, .ref p2, rfl, by show 2 ≤ sizeLine; decide, fun r nr => ⟨p, xs, .ref r, rfl, rfl, ?_, ?_, ?_⟩⟩
            · rw [upd_ne (ne_of_none hp3 nr)]
              exact hp3
            · rw [Paired.len hR]
              exact big5 (by omega)
            · have nr0 : H r = none := sH2.free (by
                have : r ≠ l := fun z => by rw [z, upd_same] at nr; cases nr
                rw [upd_ne this] at nr
                exact nr)
              have hp2l : p2 ≠ l := fun z => by rw [z, hL2] at hp2; cases hp2
              have hp2p : p2 ≠ p := fun z => by rw [z, s2 _ _ (sx _ _ hp)] at hp2; cases hp2
              have hp23 : H3 p2 = some (.dK (am (openB A (cs.getD k [])))) := by
                show upd H2 l _ p2 = _
                rw [upd_ne hp2l]
                exact hp2
              have td1 : TD Hc H3 := TD.trans (TD.same (sx.trans s2)) (TD.lst hL2)
              have td2 : TD H3 (upd (upd H3 r (.tup [.int (k : Nat), .ref p2])) p (.lst (xs ++ [.ref r]))) := by
                refine TD.trans (TD.same (Same.new nr)) (TD.lst (xs := xs) ?_)
                rw [upd_ne (ne_of_none hp3 nr)]
                exact hp3
              have hrp : r ≠ p := fun z => by
                have z2 : H3 p = none := by rw [← z]; exact nr
                rw [hp3] at z2
                cases z2
              refine ⟨p2, some (.int (k : Nat)), openB A (cs.getD k []), L.erase k, R ++ [(k, openB A (cs.getD k []))], xs ++ [.ref r], rfl, ?_, ?_, ?_, ?_, ?_, upd_same, ?_, ?_, ?_, ?_⟩
              · rw [List.length_erase_of_mem hb.1]
                omega
              · exact Same.over (Same.over (Same.over sH2 nl0) nr0) np
              · exact (td2 _).2 _ hp23
              · have := openB_len A (cs.getD k [])
                rw [len4 h4 hkc] at this
                rw [List.length_append]
                show _ ≤ 4 * (R.length + 1)
                omega
              · rw [upd_ne (Ne.symm npl), upd_ne (fun z => by rw [← z] at nr; rw [upd_same] at nr; cases nr)]
                exact upd_same
              · exact Paired.app (Paired.mapP hR fun x y z => (z.td td1).td td2) (.cons ⟨r, p2, rfl, by rw [upd_ne hrp, upd_same], (td2 _).2 _ hp23⟩ .nil)
              · exact tak_next hT hb
              · exact fun k2 hk2 => hin k2 (List.mem_of_mem_erase hk2)
              · rw [List.length_append, List.length_erase_of_mem hb.1]
                show R.length + 1 + _ = _
                omega
    · have hL0 : L = [] := by
        cases L with
        | nil => rfl
        | cons a L => exact absurd (decide_eq_true (by show (0:Int) < ((L.length + 1 : Nat) : Int); omega)) e
      subst hL0
      have t := hT [] (.nil _)
      rw [List.append_nil] at t
      exact ⟨.ref p, rfl, q p Hc R xs sm np t hp hR⟩
end
end TH
end
section
set_option Elab.async false
set_option linter.all false
set_option maxRecDepth 100000
set_option maxHeartbeats 4000000
namespace TH
open PySem PySem.Spec PyProof.Rows L2
theorem tak_at {H : Hp} {xs : List V} {res : List (Nat × List Int)} (h : Paired (TakE H) xs res) {i : Nat} {x : V} (e : xs[i]? = some x) : ∃ t, res[i]? = some t ∧ TakE H x t := paired_get h e
theorem iv_snoc (L : List Nat) (k : Nat) : iv (L ++ [k]) = iv L ++ [.int (k : Nat)] := by
  unfold iv
  rw [List.map_append, List.map_append]
  rfl
theorem map_take {α β : Type} {g : α → β} {L : List α} {i : Nat} {t : α} (h : L[i]? = some t) : (L.take (i + 1)).map g = (L.take i).map g ++ [g t] := by
  rw [List.take_add_one, h, List.map_append]
  rfl
theorem tak_len {cs : List (List Int)} {A : List Int} {L : List Nat} {res : List (Nat × List Int)} (h : Tak cs A L res) : res.length = L.length := by
  induction h with
  | nil => rfl
  | cons hb t ih =>
    rw [List.length_cons, ih, List.length_erase_of_mem hb.1]
    have := List.length_pos_of_mem hb.1
    omega
section
variable {P : Program} {w : World} {K : PySem.W.Frag} {mg : Str → Option Value} {base : Heap}
/-! ### order_of -/
abbrev sOrderOf : Stmt := topS 22
theorem scOrderOf : FnScope ["web", "number", "arcs"] ["web"] (defScope sOrderOf) := ⟨rfl, rfl, rfl, by decide +kernel, rfl, by decide +kernel, by decide +kernel⟩
def spOrderOf (K : PySem.W.Frag) : Sp := fun vs H Q _ => ∃ x cs ends rings, vs = [x] ∧ WebAt K H x cs ends rings ∧ cs.length ≤ 100 ∧ (∀ c ∈ cs, c.length = 4) ∧
  ∀ p H' res, Same H H' → H p = none → Tak cs [] (List.range cs.length) res → H' p = some (.lst (iv (res.map (·.1)))) → Q (.ref p) H'
theorem ok_orderOf {f : Addr} {fd : FuncData} {k : Nat} (F : Fun K "order_of" "order_of" sOrderOf f fd) (G : Cal P w K mg base k "takings" ["web"] (spTakings K)) : FnOk P w K mg base CX0 (k + 1) f fd ["web"] (spOrderOf K) := by
  refine F.ok scOrderOf (fun vs H Q E h => ?_) (fun cdv A outer s H vs Q E hr h => ?_)
  · obtain ⟨x, cs, ends, rings, rfl, _⟩ := h
    rfl
  · obtain ⟨x, cs, ends, rings, rfl, hw, hl, h4, q⟩ := h
    refine ⟨_, pss_one (ps_ret (pe_lc (own := [("number", 1), ("arcs", 2)]) (g := gTup K 2 (gCons (gName 1) (gCons (gName 2) gNil))) rfl scOrderOf.nd (pi_list (pe_cal G hr (by rfl) (pa_cons (pv 0) pa_nil)))
          (blkOk_by (own := [("number", 1), ("arcs", 2)]) (N := ["web", "number", "arcs"]) (sc := defScope sOrderOf) (by decide +kernel))
          (fun _ _ _ _ _ => pg_tup rfl (pgs_cons (pg_name (i := 1) scOrderOf.nd rfl (Or.inl rfl)) (pgs_cons (pg_name (i := 2) scOrderOf.nd rfl (Or.inl rfl)) pgs_nil)))
          (fun _ _ _ _ _ => pts_nil) (fun _ _ _ _ _ => pv 1))), ?_⟩
    refine ⟨x, rfl, x, cs, ends, rings, rfl, hw, hl, h4, fun p H1 res xs s1 np ht hp hR => ?_⟩
    have l1 : xs.length = res.length := Paired.len hR
    have l2 := tak_len ht
    rw [List.length_range] at l2
    refine ⟨p, rfl, ⟨xs, .inl (.inl hp)⟩, fun D nD => lc_list (xs := xs) (fun i Hx => Same H1 Hx ∧ Hx D = some (.lst (iv ((res.take i).map (·.1))))) ⟨Same.new nD, upd_same⟩ (fun i Hx hi p => .inl (.inl (p.1 _ _ hp))) (fun i x Hx hxi p => ?_) (fun Hx p => ?_)⟩
    · obtain ⟨sx, hD⟩ := p
      obtain ⟨t, ht2, t', d', rfl, e1, e2⟩ := tak_at hR hxi
      refine ⟨t', _, rfl, .inl (.inl (sx _ _ e1)), rfl, _, _, rfl, _, _, rfl, rfl, rfl, lcYes ⟨.int (t.1 : Nat), rfl, _, hD, ?_, Same.over sx nD, ?_⟩⟩
      · rw [iv_len, List.length_map, List.length_take]
        exact big5 (by omega)
      · rw [upd_same, map_take ht2, iv_snoc]
    · obtain ⟨sx, hD⟩ := p
      rw [l1, List.take_length] at hD
      exact q D Hx res (s1.trans sx) (s1.free nD) ht hD
/-! ### check_narrow -/
abbrev sNarrow : Stmt := topS 23
theorem scNarrow : FnScope ["web", "number", "arcs"] ["web"] (defScope sNarrow) := ⟨rfl, rfl, rfl, by decide +kernel, rfl, by decide +kernel, by decide +kernel⟩
def spNarrow (K : PySem.W.Frag) : Sp := fun vs H Q _ => ∃ x cs ends rings, vs = [x] ∧ WebAt K H x cs ends rings ∧ cs.length ≤ 100 ∧ (∀ c ∈ cs, c.length = 4) ∧
  (∀ res, Tak cs [] (List.range cs.length) res → ∀ e ∈ res, e.2.length ≤ 8) ∧ ∀ H', Same H H' → Q .non H'
theorem ok_narrow {f : Addr} {fd : FuncData} {k : Nat} (F : Fun K "check_narrow" "check_narrow" sNarrow f fd) (G : Cal P w K mg base k "takings" ["web"] (spTakings K)) (mn : mg "len" = none) {z8 : Nat} (m8 : mg "MOST_OPEN" = some (.int 8 z8)) :
    FnOk P w K mg base CX0 (k + 1) f fd ["web"] (spNarrow K) := by
  refine F.ok scNarrow (fun vs H Q E h => ?_) (fun cdv A outer s H vs Q E hr h => ?_)
  · obtain ⟨x, cs, ends, rings, rfl, _⟩ := h
    rfl
  · obtain ⟨x, cs, ends, rings, rfl, hw, hl, h4, h8, q⟩ := h
    refine ⟨_, pss_one (ps_for PassesOwn.never rfl (pi_list (pe_cal G hr (by rfl) (pa_cons (pv 0) pa_nil)))
          (pg_tup rfl (pgs_cons (pg_name (i := 1) scNarrow.nd rfl (.inl rfl)) (pgs_cons (pg_name (i := 2) scNarrow.nd rfl (.inl rfl)) pgs_nil)))
        (pss_one (ps_if (pt_cmpR op_gt (pe_callB call_lenD (by rfl) mn PySem.boot_len (pa_cons (pv 2) pa_nil)) (pe_glob (v := V.int 8) rfl m8 ⟨_, rfl⟩) (nomark _)) (pss_one ps_never) pss_nil))), ?_⟩
    refine ⟨x, rfl, x, cs, ends, rings, rfl, hw, hl, h4, fun p H1 res xs s1 np ht hp hR => ?_⟩
    have l1 : xs.length = res.length := Paired.len hR
    refine ⟨p, rfl, ⟨xs, .inl (.inl hp)⟩, for_list (xs := xs) (fun i σ Hx => ∃ y1 y2, σ = [some x, y1, y2] ∧ Same H1 Hx) ⟨none, none, rfl, fun b o e => e⟩ (fun i σ Hx hi p => ?_) (fun i x σ Hx hxi p => ?_) (fun σ Hx p => ?_)⟩
    · obtain ⟨_, _, _, sx⟩ := p
      exact .inl (.inl (sx _ _ hp))
    · obtain ⟨y1, y2, rfl, sx⟩ := p
      obtain ⟨t, ht2, t', d', rfl, e1, e2⟩ := tak_at hR hxi
      have := h8 res ht t (List.mem_of_getElem? ht2)
      refine ⟨t', _, rfl, .inl (.inl (sx _ _ e1)), rfl, _, _, rfl, _, _, rfl, rfl, ?_⟩
      refine ⟨.ref d', rfl, d', _, rfl, sx _ _ e2, ((am t.2).length : Int), 8, rfl, rfl, _, rfl, ite2 (fun e => ?_) (fun e => ?_)⟩
      · rw [am_len] at e
        have := of_decide_eq_true e
        exfalso
        omega
      · exact ⟨some (.int (t.1 : Nat)), some (.ref d'), rfl, sx⟩
    · obtain ⟨y1, y2, rfl, sx⟩ := p
      exact q Hx (s1.trans sx)
end
end TH
end
section
set_option Elab.async false
set_option linter.all false
set_option maxRecDepth 100000
set_option maxHeartbeats 4000000
namespace TH
open PySem PySem.Spec PyProof.Rows L2
/-! ### how long things get -/
theorem sortI_len (l : List Int) : (sortI l).length = l.length := (sortI_perm l).length_eq
theorem gfin_len (d : PL) (ks : List Int) : (gfin d ks).length ≤ ks.length := by
  unfold gfin
  refine Nat.le_trans (List.length_filter_le _ _) ?_
  rw [List.length_map]
  exact Nat.le_refl _
theorem gathered_len (ts : PL) : (gathered ts).length ≤ ts.length := by
  unfold gathered
  refine Nat.le_trans (gfin_len _ _) ?_
  rw [sortI_len, List.length_map]
  have z := gdict_len ts []
  rw [List.length_nil, Nat.zero_add] at z
  exact z
theorem plus_len (a b : PL) : (plus a b).length ≤ a.length + b.length := by
  unfold plus
  refine Nat.le_trans (gathered_len _) ?_
  rw [List.length_append]
  exact Nat.le_refl _
theorem times_ring_len (a : PL) : (times a pRING).length ≤ 2 * a.length := by
  unfold times
  refine Nat.le_trans (gathered_len _) ?_
  induction a with
  | nil => exact Nat.zero_le _
  | cons p a ih =>
    rw [List.flatMap_cons, List.length_append, List.length_map, List.length_cons]
    show 2 + _ ≤ _
    omega
theorem withRings_len (t : PL) : ∀ n, (withRings t n).length ≤ 2 ^ n * t.length
  | 0 => by show t.length ≤ _; omega
  | n + 1 => by
    have h := times_ring_len (withRings t n)
    have ih := withRings_len t n
    show (times (withRings t n) pRING).length ≤ _
    rw [Nat.pow_succ, Nat.mul_comm (2 ^ n) 2, Nat.mul_assoc]
    omega
theorem lifted_len (a : PL) (m : Int) : (lifted a m).length = a.length := List.length_map _
theorem strung_ring (s : PL) (a b : Int) : (strung s a b).2 ≤ 1 := by
  unfold strung
  split
  · exact Nat.le_refl _
  · dsimp only
    split
    · exact Nat.le_refl _
    · exact Nat.zero_le _
theorem openedAt_ring (s : PL) (c : List Int) (way : Nat) : (openedAt s c way).2 ≤ 2 := by
  unfold openedAt joins
  split
  · have h1 := strung_ring s (c.getD 0 0) (c.getD 1 0)
    have h2 := strung_ring (strung s (c.getD 0 0) (c.getD 1 0)).1 (c.getD 2 0) (c.getD 3 0)
    have z : 0 + (strung s (c.getD 0 0) (c.getD 1 0)).2 + (strung (strung s (c.getD 0 0) (c.getD 1 0)).1 (c.getD 2 0) (c.getD 3 0)).2 ≤ 2 := by omega
    exact z
  · have h1 := strung_ring s (c.getD 0 0) (c.getD 3 0)
    have h2 := strung_ring (strung s (c.getD 0 0) (c.getD 3 0)).1 (c.getD 1 0) (c.getD 2 0)
    have z : 0 + (strung s (c.getD 0 0) (c.getD 3 0)).2 + (strung (strung s (c.getD 0 0) (c.getD 3 0)).1 (c.getD 1 0) (c.getD 2 0)).2 ≤ 2 := by omega
    exact z
theorem openedAt_len (s : PL) (c : List Int) (way : Nat) : (openedAt s c way).1.length ≤ s.length + 4 := by
  unfold openedAt joins
  split
  · have h1 := strung_len s (c.getD 0 0) (c.getD 1 0)
    have h2 := strung_len (strung s (c.getD 0 0) (c.getD 1 0)).1 (c.getD 2 0) (c.getD 3 0)
    have z : (strung (strung s (c.getD 0 0) (c.getD 1 0)).1 (c.getD 2 0) (c.getD 3 0)).1.length ≤ s.length + 4 := by omega
    exact z
  · have h1 := strung_len s (c.getD 0 0) (c.getD 3 0)
    have h2 := strung_len (strung s (c.getD 0 0) (c.getD 3 0)).1 (c.getD 1 0) (c.getD 2 0)
    have z : (strung (strung s (c.getD 0 0) (c.getD 3 0)).1 (c.getD 1 0) (c.getD 2 0)).1.length ≤ s.length + 4 := by omega
    exact z
/-- what stands under a key, behind a write -/
theorem sgt_map (J t : PL) (J' : PL) : ∀ f : List (PL × PL), sgt (f.map fun kv => if kv.1 = J then (kv.1, t) else kv) J' = if J' = J then (sgt f J').map fun _ => t else sgt f J'
  | [] => by split <;> rfl
  | x :: f => by
    rw [List.map_cons, sgt_cons, sgt_cons, sgt_map J t J' f]
    by_cases e : x.1 = J
    · rw [if_pos e]
      by_cases e2 : x.1 = J'
      · rw [if_pos e2, if_pos e2, if_pos (e2.symm.trans e)]
        rfl
      · rw [if_neg e2, if_neg e2]
    · rw [if_neg e]
      by_cases e2 : x.1 = J'
      · rw [if_pos e2, if_pos e2, if_neg (fun z => e (e2.trans z))]
      · rw [if_neg e2, if_neg e2]
theorem sgt_app (J' : PL) (y : PL × PL) : ∀ f : List (PL × PL), sgt (f ++ [y]) J' = (sgt f J').or (if y.1 = J' then some y.2 else none)
  | [] => by rw [List.nil_append, sgt_cons]; rfl
  | x :: f => by
    rw [List.cons_append, sgt_cons, sgt_cons, sgt_app J' y f]
    by_cases e : x.1 = J'
    · rw [if_pos e, if_pos e]; rfl
    · rw [if_neg e, if_neg e]
theorem sgt_sput (f : List (PL × PL)) (J t J' : PL) : sgt (sput f J t) J' = if J' = J then some t else sgt f J' := by
  unfold sput
  by_cases h : (sgt f J).isSome = true
  · rw [if_pos h, sgt_map]
    by_cases e : J' = J
    · rw [if_pos e, if_pos e, e]
      obtain ⟨u, hu⟩ := Option.isSome_iff_exists.mp h
      rw [hu]
      rfl
    · rw [if_neg e, if_neg e]
  · rw [if_neg h, sgt_app]
    by_cases e : J' = J
    · subst e
      have : sgt f J' = none := by
        cases z : sgt f J' with
        | none => rfl
        | some u => rw [z] at h; exact absurd rfl h
      rw [this, if_pos (show (J', t).1 = J' from rfl)]
      rfl
    · rw [if_neg (fun z => e z.symm), if_neg e]
      cases sgt f J' <;> rfl
/-- every polynomial of f has at most B terms -/
def Bd (B : Nat) (f : List (PL × PL)) : Prop := ∀ J u, sgt f J = some u → u.length ≤ B
theorem Bd.put {B T : Nat} {f : List (PL × PL)} {J t : PL} (h : Bd B f) (ht : t.length ≤ T) : Bd (B + T) (putTo f J t) := by
  intro J' u e
  unfold putTo at e
  rw [sgt_sput] at e
  by_cases z : J' = J
  · rw [if_pos z] at e
    cases e
    have z2 := plus_len ((sgt f J).getD []) t
    have z3 : ((sgt f J).getD []).length ≤ B := by
      cases y : sgt f J with
      | none => exact Nat.zero_le _
      | some u => exact h J u y
    omega
  · rw [if_neg z] at e
    have := h J' u e
    omega
theorem bstep_len {c : List Int} {e : PL × PL} {way : Nat} (h : e.2.length ≤ 1000) : (withRings (lifted e.2 (1 - 2 * (way : Int))) (openedAt (strandsOf e.1) c way).2).length ≤ 4000 := by
  refine Nat.le_trans (withRings_len _ _) ?_
  rw [lifted_len]
  have h1 := openedAt_ring (strandsOf e.1) c way
  have h2 : 2 ^ (openedAt (strandsOf e.1) c way).2 ≤ 2 ^ 2 := Nat.pow_le_pow_right (by decide) h1
  exact Nat.mul_le_mul h2 h
theorem Bd.step {B : Nat} {f : List (PL × PL)} {c : List Int} {e : PL × PL} {way : Nat} (h : Bd B f) (he : e.2.length ≤ 1000) : Bd (B + 4000) (behindStep c e f way) := Bd.put h (bstep_len he)
theorem bstep_count (c : List Int) (e : PL × PL) (f : List (PL × PL)) (way : Nat) : (behindStep c e f way).length ≤ f.length + 1 := by
  unfold behindStep putTo
  exact sput_len _ _ _
theorem Bd.fold {c : List Int} : ∀ {kvs f : List (PL × PL)} {B : Nat}, Bd B f → (∀ e ∈ kvs, e.2.length ≤ 1000) → Bd (B + 8000 * kvs.length) (kvs.foldl (behind c) f)
  | [], f, B, h, _ => h
  | e :: kvs, f, B, h, hk => by
    have z := Bd.fold (c := c) (kvs := kvs) ((h.step (c := c) (way := 0) (hk e List.mem_cons_self)).step (c := c) (way := 1) (hk e List.mem_cons_self)) fun x hx => hk x (List.mem_cons_of_mem _ hx)
    intro J u q
    have := z J u q
    rw [List.length_cons]
    omega
theorem fold_count (c : List Int) : ∀ (kvs f : List (PL × PL)), (kvs.foldl (behind c) f).length ≤ f.length + 2 * kvs.length
  | [], f => Nat.le_refl _
  | e :: kvs, f => by
    have z := fold_count c kvs (behind c f e)
    have z1 := bstep_count c e f 0
    have z2 := bstep_count c e (behindStep c e f 0) 1
    show (kvs.foldl (behind c) (behind c f e)).length ≤ _
    rw [List.length_cons]
    unfold behind at z ⊢
    omega
theorem strandsOf_len (J : PL) : (strandsOf J).length ≤ 2 * J.length := by
  have z := so_len J []
  rw [List.length_nil, Nat.zero_add] at z
  exact z
section
variable {P : Program} {w : World} {K : PySem.W.Frag} {mg : Str → Option Value} {base : Heap}
/-! ### store_behind -/
abbrev sBehind : Stmt := topS 26
theorem scBehind : FnScope ["store", "crossing", "found", "joining", "total", "way", "strands", "rings"] ["store", "crossing"] (defScope sBehind) := ⟨rfl, rfl, rfl, by decide +kernel, rfl, by decide +kernel, by decide +kernel⟩
def spBehind (P : Program) (w : World) (K : PySem.W.Frag) : Sp := fun vs H Q _ => ∃ d kvs a c, vs = [.ref d, .ref a] ∧ Sm P w K H d kvs ∧ kvs.length ≤ 4 ∧ (∀ e ∈ kvs, e.1.length ≤ 400 ∧ e.2.length ≤ 1000) ∧ Tp K H a (c.map V.int) ∧ c.length = 4 ∧
  ∀ p H', Same H H' → H p = none → Sm P w K H' p (storeBehind kvs c) → Q (.ref p) H'
theorem ok_behind {f : Addr} {fd : FuncData} {k : Nat} (F : Fun K "store_behind" "store_behind" sBehind f fd) (mr : mg "range" = none)
    (G1 : Cal P w K mg base k "strands_of" ["joining"] (spStrandsOf K)) (G2 : Cal P w K mg base k "opened_at" ["strands", "crossing", "way"] (spOpenedAt K)) (G3 : Cal P w K mg base k "put_to" ["sums", "joining", "total"] (spPutTo P w K))
    (G4 : Cal P w K mg base k "open_joining" ["strands"] (spOpenJoining K)) (G5 : Cal P w K mg base k "with_rings" ["total", "rings"] (spWithRings K)) (G6 : Cal P w K mg base k "lifted" ["one", "many"] (spLifted K)) (G7 : Cal P w K mg base k "without_noughts" ["sums"] (spNoN P w K)) :
    FnOk P w K mg base CX0 (k + 1) f fd ["store", "crossing"] (spBehind P w K) := by
  refine F.ok scBehind (fun vs H Q E h => ?_) (fun cdv A outer s H vs Q E hr h => ?_)
  · obtain ⟨d, kvs, a, c, rfl, _⟩ := h
    rfl
  · obtain ⟨d, kvs, a, c, rfl, ⟨xs, hd, sx⟩, hl, hsz, hc, hc4, q⟩ := h
    have hu := hu64 hr
    refine ⟨_, pss_cons (ps_set (i := 2) scBehind.nd rfl (.inl rfl) pe_snew)
      (pss_cons (ps_lock (ps_for PassesOwn.never rfl (pi_sitems (pv 0))
          (pg_tup rfl (pgs_cons (pg_name (i := 3) scBehind.nd rfl (.inl rfl)) (pgs_cons (pg_name (i := 4) scBehind.nd rfl (.inl rfl)) pgs_nil)))
        (pss_one (ps_for PassesOwn.never rfl (pi_range1 rfl mr (pa_cons pe_int pa_nil)) (pg_name (i := 5) scBehind.nd rfl (.inl rfl))
          (pss_cons (ps_set (i := 6) scBehind.nd rfl (.inl rfl) (pe_cal G1 hr (by rfl) (pa_cons (pv 3) pa_nil)))
          (pss_cons (ps_set (i := 7) scBehind.nd rfl (.inl rfl) (pe_cal G2 hr (by rfl) (pa_cons (pv 6) (pa_cons (pv 1) (pa_cons (pv 5) pa_nil)))))
          (pss_one (ps_expr (pe_cal G3 hr (by rfl) (pa_cons (pv 2) (pa_cons (pe_cal G4 hr (by rfl) (pa_cons (pv 6) pa_nil)) (pa_cons (pe_cal G5 hr (by rfl) (pa_cons (pe_cal G6 hr (by rfl) (pa_cons (pv 4) (pa_cons (pe_op op_sub pe_int (pe_op op_mul pe_int (pv 5))) pa_nil))) (pa_cons (pv 7) pa_nil))) pa_nil))))))))))))
      (pss_one (ps_ret (pe_cal G7 hr (by rfl) (pa_cons (pv 2) pa_nil))))), ?_⟩
    intro p np
    have ndp : d ≠ p := ne_of_none hd np
    have lx : xs.length = kvs.length := Paired.len sx
    refine ⟨d, SD P w d xs, by rw [upd_ne ndp]; exact hd, True.intro, fun od => ?_⟩
    refine ⟨.ref d, rfl, d, od, xs, rfl, upd_same, for_s (fun i σ Hc => ∃ y3 y4 y5 y6 y7, σ = [some (.ref d), some (.ref a), some (.ref p), y3, y4, y5, y6, y7] ∧ SameX d H Hc ∧ Hc d = some (.frz od (SD P w d xs)) ∧ ∃ ys, Hc p = some (SD P w p ys) ∧ SXr K Hc ys ((kvs.take i).foldl (behind c) []))
      ⟨none, none, none, none, none, rfl, fun b o nb e => ?_, upd_same, [], ?_, .nil⟩ (fun i σ Hc hi p => ?_) (fun i y σ Hc T hy pv nT => ?_) (fun σ Hc p => ?_)⟩
    · rw [upd_ne nb, upd_ne (ne_of_none e np)]
      exact e
    · rw [upd_ne (Ne.symm ndp), upd_same]
      rfl
    · obtain ⟨_, _, _, _, _, _, _, e, _⟩ := p
      exact e
    · obtain ⟨y3, y4, y5, y6, y7, rfl, sm, hdc, ys, hp, sy⟩ := pv
      obtain ⟨kv, hkv, e1, hJ, ht⟩ := paired_get sx hy
      have s0 : Same Hc (upd Hc T (.tup [.ref y.2.1, .ref y.2.2])) := Same.new nT
      have e3 : (kvs.take (i + 1)).foldl (behind c) [] = behind c ((kvs.take i).foldl (behind c) []) kv := by rw [List.take_add_one, hkv, List.foldl_append]; rfl
      have hmem : kv ∈ kvs := List.mem_of_getElem? hkv
      obtain ⟨hJl, htl⟩ := hsz kv hmem
      have hbd0 : Bd (8000 * 4) ((kvs.take i).foldl (behind c) []) := by
        have z := Bd.fold (c := c) (kvs := kvs.take i) (f := []) (B := 0) (fun J u e => nomatch e) fun e he => (hsz e (List.mem_of_mem_take he)).2
        intro J u e
        have := z J u e
        have z2 : (kvs.take i).length ≤ 4 := by rw [List.length_take]; omega
        omega
      have hlen0 := fold_count c (kvs.take i) []
      rw [List.length_take, List.length_nil] at hlen0
      refine ⟨T, _, rfl, .inl (.inl upd_same), rfl, _, _, rfl, _, _, rfl, rfl, ?_⟩
      generalize hF : (kvs.take i).foldl (behind c) [] = F0 at sy hbd0 hlen0 e3
      let G : Nat → List (PL × PL) := fun m => (List.range m).foldl (behindStep c kv) F0
      have hG : ∀ m, G (m + 1) = behindStep c kv (G m) m := fun m => by
        show (List.range (m + 1)).foldl _ _ = _
        rw [List.range_succ, List.foldl_append]
        rfl
      refine ⟨2, rfl, by decide, by decide, for_range (n := 2) (fun m σ Hx => ∃ y5 y6 y7, σ = [some (.ref d), some (.ref a), some (.ref p), some (.ref y.2.1), some (.ref y.2.2), y5, y6, y7] ∧ SameX d H Hx ∧ Hx d = some (.frz od (SD P w d xs)) ∧ (∃ ys, Hx p = some (SD P w p ys) ∧ SXr K Hx ys (G m)) ∧ Bd (32000 + 4000 * m) (G m) ∧ (G m).length ≤ 100 + m)
        ⟨y5, y6, y7, rfl, sm.trans (SameX.of s0), s0 _ _ hdc, ⟨ys, s0 _ _ hp, sy.tk (TK.same s0)⟩, hbd0, by show F0.length ≤ _; omega⟩ (fun m σ Hx hm pv => ?_) (fun σ Hx pv => ?_)⟩
      · obtain ⟨y5, y6, y7, rfl, sm, hdx, ⟨ys, hp, sy⟩, hbd, hln⟩ := pv
        rw [Int.zero_add]
        have kx : TK H Hx := sm.tk hd (fun _ z => nomatch z)
        refine ⟨.ref y.2.1, rfl, .ref y.2.1, kv.1, rfl, hJ.tk kx, hJl, fun p3 H3 s3 np3 hp3 => ?_⟩
        have hl3 := strandsOf_len kv.1
        have k3 := kx.trans (TK.same s3)
        refine ⟨.ref p3, rfl, .ref a, rfl, .int (m : Nat), rfl, p3, strandsOf kv.1, a, c, m, rfl, hp3, by omega, hc.tk k3, hc4, hm, fun H4 s4 hp4 => ?_⟩
        have hl4 := openedAt_len (strandsOf kv.1) c m
        have k4 : TK H H4 := k3.trans (s4.tk hp3 (fun _ z => nomatch z))
        have n3 : p3 ≠ d := fun z => by rw [z, hdx] at np3; cases np3
        have n3p : p3 ≠ p := fun z => by rw [z, hp] at np3; cases np3
        have np3H : H p3 = none := by
          cases z : H p3 with
          | none => rfl
          | some o => rw [sm p3 o n3 z] at np3; cases np3
        have sm4 : SameX d H H4 := fun b o nb e => s4 b o (fun z => by rw [z, np3H] at e; cases e) (s3 _ _ (sm b o nb e))
        have hd4 : H4 d = some (.frz od (SD P w d xs)) := s4 _ _ (Ne.symm n3) (s3 _ _ hdx)
        have hp4' : H4 p = some (SD P w p ys) := s4 _ _ (Ne.symm n3p) (s3 _ _ hp)
        have sy4 : SXr K H4 ys (G m) := sy.tk ((TK.same s3).trans (s4.tk hp3 (fun _ z => nomatch z)))
        refine ⟨.ref p, rfl, .ref p3, rfl, p3, _, rfl, hp4, by omega, fun vJ H5 s5 hJ5 => ?_⟩
        have k5 := k4.trans (TK.same s5)
        have ml : (1 : Int) - 2 * (m : Nat) = 1 - 2 * (m : Int) := rfl
        refine ⟨.ref y.2.2, rfl, .int (m : Nat), rfl, 2, (m : Int), rfl, rfl, .inl ⟨by decide, by decide⟩, 1, 2 * (m : Int), rfl, rfl, .ref y.2.2, kv.2, 1 - 2 * (m : Int), rfl, ht.tk k5, by omega, fun v6 H6 s6 h6 => ?_⟩
        refine ⟨.int ((openedAt (strandsOf kv.1) c m).2 : Nat), rfl, v6, _, (openedAt (strandsOf kv.1) c m).2, rfl, h6, ?_, fun j hj => ?_, fun v7 H7 s7 h7 => ?_⟩
        · have := openedAt_ring (strandsOf kv.1) c m
          omega
        · have h1 := openedAt_ring (strandsOf kv.1) c m
          have h2 : 2 ^ j ≤ 2 ^ 2 := Nat.pow_le_pow_right (by decide) (by omega)
          have h3 := withRings_len (lifted kv.2 (1 - 2 * (m : Int))) j
          rw [lifted_len] at h3
          have h4 := Nat.mul_le_mul h2 htl
          omega
        · have s57 : Same H4 H7 := (s5.trans s6).trans s7
          have hl7 := bstep_len (c := c) (e := kv) (way := m) htl
          refine ⟨p, ys, G m, vJ, v7, _, _, rfl, s57 _ _ hp4', sy4.tk (TK.same s57), by omega, hJ5.tk (TK.same (s6.trans s7)), h7, by omega, fun u e => ?_, fun H8 zs s8 hp8 sz => ?_⟩
          · have := hbd _ u e
            omega
          · refine ⟨_, _, _, rfl, fun b o nb e => ?_, s8 _ _ ndp (s57 _ _ hd4), ⟨zs, hp8, ?_⟩, ?_, ?_⟩
            · exact s8 b o (ne_of_none e np) (s57 _ _ (sm4 b o nb e))
            · rw [hG]
              exact sz
            · rw [hG]
              have z := Bd.step (c := c) (e := kv) (way := m) hbd htl
              intro J u e
              have := z J u e
              omega
            · rw [hG]
              have := bstep_count c kv (G m) m
              omega
      · obtain ⟨y5, y6, y7, rfl, sm, hdx, ⟨ys, hp, sy⟩, hbd, hln⟩ := pv
        refine ⟨_, _, y5, y6, y7, rfl, sm, hdx, ys, hp, ?_⟩
        rw [e3]
        exact sy
    · obtain ⟨y3, y4, y5, y6, y7, rfl, sm, hdc, ys, hp, sy⟩ := p
      rw [lx, List.take_length] at sy
      have hlen := fold_count c kvs []
      rw [List.length_nil] at hlen
      have sH : Same H (upd Hc d (SD P w d xs)) := fun b o e => by
        by_cases nb : b = d
        · subst nb
          rw [upd_same, ← e, hd]
        · rw [upd_ne nb]
          exact sm b o nb e
      refine ⟨hdc, .ref p, rfl, p, _, rfl, ⟨ys, ?_, sy.tk (TK.put hdc (fun _ z => nomatch z))⟩, by omega, fun p9 H9 s9 np9 h9 => q p9 H9 (sH.trans s9) (sH.free np9) h9⟩
      rw [upd_ne (Ne.symm ndp)]
      exact hp
end
end TH
end
section
set_option Elab.async false
set_option linter.all false
set_option maxRecDepth 100000
set_option maxHeartbeats 4000000
namespace TH
open PySem PySem.Spec PyProof.Rows L2
/-- the store behind the first i of the crossings ks -/
def stAt (cs : List (List Int)) (ks : List Nat) (i : Nat) : List (PL × PL) := (ks.take i).foldl (fun st k => storeBehind st (cs.getD k [])) store0
theorem stAt_succ {cs : List (List Int)} {ks : List Nat} {i k : Nat} (h : ks[i]? = some k) : stAt cs ks (i + 1) = storeBehind (stAt cs ks i) (cs.getD k []) := by
  unfold stAt
  rw [List.take_add_one, h, List.foldl_append]
  rfl
/-- what a store must be for the walk -/
def StOk (w : World) (kvs : List (PL × PL)) : Prop := kvs.length ≤ 4 ∧ (∀ e ∈ kvs, e.1.length ≤ 400 ∧ e.2.length ≤ 500) ∧ (kvs.map fun kv => hk w kv.1).Nodup
def stEnts (cs : List (List Int)) (ks : List Nat) (n : Nat) : List (Nat × List (PL × PL)) := (List.range n).map fun i => (ks.getD i 0, stAt cs ks (i + 1))
theorem stEnts_succ (cs : List (List Int)) (ks : List Nat) (n : Nat) : stEnts cs ks (n + 1) = stEnts cs ks n ++ [(ks.getD n 0, stAt cs ks (n + 1))] := by
  unfold stEnts
  rw [List.range_succ, List.map_append]
  rfl
theorem stEnts_len (cs : List (List Int)) (ks : List Nat) (n : Nat) : (stEnts cs ks n).length = n := by
  unfold stEnts
  rw [List.length_map, List.length_range]
theorem stEnts_at {cs : List (List Int)} {ks : List Nat} {n i : Nat} (h : i < n) : (stEnts cs ks n)[i]? = some (ks.getD i 0, stAt cs ks (i + 1)) := by
  unfold stEnts
  rw [List.getElem?_map, List.getElem?_range h]
  rfl
def StE (P : Program) (w : World) (K : PySem.W.Frag) (H : Hp) (v : V) (e : Nat × List (PL × PL)) : Prop := ∃ t d, v = .ref t ∧ H t = some (.tup [.int (e.1 : Nat), .ref d]) ∧ Sm P w K H d e.2
theorem StE.same {P : Program} {w : World} {K : PySem.W.Frag} {H H' : Hp} {v : V} {e : Nat × List (PL × PL)} (h : StE P w K H v e) (s : Same H H') : StE P w K H' v e := let ⟨t, d, a, b, c⟩ := h; ⟨t, d, a, s _ _ b, c.tk (TK.same s) fun _ z => s _ _ z⟩
theorem StE.lst {P : Program} {w : World} {K : PySem.W.Frag} {H : Hp} {l : Addr} {xs ys : List V} {v : V} {e : Nat × List (PL × PL)} (h : StE P w K H v e) (hl : H l = some (.lst xs)) : StE P w K (upd H l (.lst ys)) v e := by
  obtain ⟨t, d, a, b, ⟨zs, c1, c2⟩⟩ := h
  refine ⟨t, d, a, ?_, zs, ?_, c2.tk (TK.put hl fun _ z => nomatch z)⟩
  · rw [upd_ne (fun z => by rw [z, hl] at b; cases b)]
    exact b
  · rw [upd_ne (fun z => by rw [z, hl] at c1; cases c1)]
    exact c1
theorem tak_in {cs : List (List Int)} {A : List Int} {L : List Nat} {res : List (Nat × List Int)} (h : Tak cs A L res) (k : Nat) (hk : k ∈ res.map (·.1)) (hL : ∀ j ∈ L, j < cs.length := by exact fun j hj => List.mem_range.mp hj) : k < cs.length := by
  induction h with
  | nil => exact nomatch hk
  | cons hb t ih =>
    rcases List.mem_cons.mp hk with e | hk
    · exact e ▸ hL _ hb.1
    · exact ih hk fun j hj => hL j (List.mem_of_mem_erase hj)
theorem cr_sdictK {X : Cx} (P : Program) (w : World) (K : PySem.W.Frag) (h1 : X.prog = P) (h2 : X.w = w) (h3 : X.K = K) (hu : X.A.units + 64 < cLine) : CallR X (.type "dict") (rSDict P w K) := by
  subst h1 h2 h3
  exact cr_sdict hu
section
variable {P : Program} {w : World} {K : PySem.W.Frag} {mg : Str → Option Value} {base : Heap}
/-! ### stores -/
abbrev sStores : Stmt := topS 27
theorem scStores : FnScope ["web", "found", "store", "number", "some"] ["web"] (defScope sStores) := ⟨rfl, rfl, rfl, by decide +kernel, rfl, by decide +kernel, by decide +kernel⟩
/-- what a web must be for the walk -/
def WebOk (w : World) (cs : List (List Int)) : Prop := cs.length ≤ 100 ∧ (∀ c ∈ cs, c.length = 4) ∧ (∀ res, Tak cs [] (List.range cs.length) res → ∀ e ∈ res, e.2.length ≤ 8) ∧
  ∀ res, Tak cs [] (List.range cs.length) res → ∀ i, i ≤ cs.length → StOk w (stAt cs (res.map (·.1)) i)
def spStores (P : Program) (w : World) (K : PySem.W.Frag) : Sp := fun vs H Q _ => ∃ x cs ends rings, vs = [x] ∧ WebAt K H x cs ends rings ∧ WebOk w cs ∧
  ∀ p H' res xs, Same H H' → H p = none → Tak cs [] (List.range cs.length) res → H' p = some (.lst xs) → Paired (StE P w K H') xs (stEnts cs (res.map (·.1)) cs.length) → Q (.ref p) H'
theorem ok_stores {f : Addr} {fd : FuncData} {k : Nat} (F : Fun K "stores" "stores" sStores f fd) (md : mg "dict" = none) {aO : Addr} (gO : mg "ONE" = some (.ref aO)) (hO : ∀ H, Pl K H (.ref aO) pONE)
    (G1 : Cal P w K mg base k "check_narrow" ["web"] (spNarrow K)) (G2 : Cal P w K mg base k "order_of" ["web"] (spOrderOf K)) (G3 : Cal P w K mg base k "store_behind" ["store", "crossing"] (spBehind P w K)) :
    FnOk P w K mg base CX0 (k + 1) f fd ["web"] (spStores P w K) := by
  refine F.ok scStores (fun vs H Q E h => ?_) (fun cdv A outer s H vs Q E hr h => ?_)
  · obtain ⟨x, cs, ends, rings, rfl, _⟩ := h
    rfl
  · obtain ⟨x, cs, ends, rings, rfl, hw, ⟨hl, h4, h8, hst⟩, q⟩ := h
    have hu := hu64 hr
    refine ⟨_, pss_cons (ps_expr (pe_cal G1 hr (by rfl) (pa_cons (pv 0) pa_nil)))
      (pss_cons (ps_set (i := 1) scStores.nd rfl (.inl rfl) (pe_lst pa_nil))
      (pss_cons (ps_set (i := 2) scStores.nd rfl (.inl rfl) (pe_sone hu (pe_tup pa_nil) (pe_glob (v := V.ref aO) rfl gO rfl)))
      (pss_cons (ps_for PassesOwn.never rfl (pi_list (pe_cal G2 hr (by rfl) (pa_cons (pv 0) pa_nil))) (pg_name (i := 3) scStores.nd rfl (.inl rfl))
        (pss_cons (ps_set (i := 2) scStores.nd rfl (.inl rfl) (pe_cal G3 hr (by rfl) (pa_cons (pv 2) (pa_cons (pe_ix ix_tup (pe_ix ix_tup (pv 0) pe_int (fun _ _ => rfl)) (pv 3) (fun _ _ => rfl)) pa_nil))))
        (pss_one (ps_expr (pe_bm PySem.F.plainAttrs_list PySem.F.slot_list_append PySem.F.type_list_append mt_append (pv 1) (pa_cons (pe_tup (pa_cons (pv 3) (pa_cons (pv 2) pa_nil))) pa_nil))))))
      (pss_one (ps_ret (pe_lc (own := [("number", 3), ("some", 4)]) (g := gTup K 2 (gCons (gName 3) (gCons (gName 4) gNil))) rfl scStores.nd (pi_list (pv 1))
          (blkOk_by (own := [("number", 3), ("some", 4)]) (N := ["web", "found", "store", "number", "some"]) (sc := defScope sStores) (by decide +kernel))
          (fun _ _ _ _ _ => pg_tup rfl (pgs_cons (pg_name (i := 3) scStores.nd rfl (Or.inl rfl)) (pgs_cons (pg_name (i := 4) scStores.nd rfl (Or.inl rfl)) pgs_nil)))
          (fun _ _ _ _ _ => pts_nil) (fun _ _ _ _ _ => pe_tup (pa_cons (pv 3) (pa_cons (pe_callTy (cr_sdictK P w K rfl rfl rfl hu) (by rfl) md (by decide +kernel) (pa_cons (pv 4) pa_nil)) pa_nil))))))))), ?_⟩
    refine ⟨x, rfl, x, cs, ends, rings, rfl, hw, hl, h4, h8, fun H1 s1 => ?_⟩
    refine ⟨Nat.zero_le _, fun l nl => ?_⟩
    have nl0 : H l = none := s1.free nl
    intro d nd
    have ndl : d ≠ l := fun e => by rw [e, upd_same] at nd; cases nd
    have nd1 : H1 d = none := by rw [upd_ne ndl] at nd; exact nd
    have nd0 : H d = none := s1.free nd1
    refine ⟨Nat.zero_le _, fun e0 ne0 => ?_⟩
    have ned : e0 ≠ d := fun e => by rw [e, upd_same] at ne0; cases ne0
    have hd2 : (upd (upd (upd H1 l (.lst [])) d (SD P w d [])) e0 (.tup [])) d = some (SD P w d []) := by rw [upd_ne (Ne.symm ned), upd_same]
    refine ⟨hd2, [], pONE, e0, aO, rfl, rfl, pl_nil, hO _, ?_⟩
    have hl3 : (upd (upd (upd H1 l (.lst [])) d (SD P w d [])) e0 (.tup [])) l = some (.lst []) := by
      have z : (upd (upd H1 l (.lst [])) d (SD P w d [])) l = some (.lst []) := by rw [upd_ne (Ne.symm ndl), upd_same]
      rw [upd_ne (ne_of_none z ne0)]
      exact z
    have s3 : Same H (upd (upd (upd H1 l (.lst [])) d (SD P w d [])) e0 (.tup [])) := by
      have z : Same H (upd (upd H1 l (.lst [])) d (SD P w d [])) := Same.over (Same.over s1 nl0) nd0
      exact Same.over z (z.free ne0)
    have hst3 : Sm P w K (upd (upd (upd (upd H1 l (.lst [])) d (SD P w d [])) e0 (.tup [])) d (SD P w d [([], e0, aO)])) d store0 :=
      ⟨_, upd_same, .cons ⟨rfl, (pl_nil (H := upd (upd H1 l (.lst [])) d (SD P w d []))).tk (TK.put hd2 fun _ z => nomatch z), hO _⟩ .nil⟩
    have s4 := Same.over (o := SD P w d [([], e0, aO)]) s3 nd0
    have hl4 : (upd (upd (upd (upd H1 l (.lst [])) d (SD P w d [])) e0 (.tup [])) d (SD P w d [([], e0, aO)])) l = some (.lst []) := by rw [upd_ne (Ne.symm ndl)]; exact hl3
    refine ⟨x, rfl, x, cs, ends, rings, rfl, hw.tk (TK.same s4), hl, h4, fun p2 H5 res s5 np2 ht hp2 => ?_⟩
    have l2 := tak_len ht
    rw [List.length_range] at l2
    have nlp : l ≠ p2 := ne_of_none hl4 np2
    have s05 := s4.trans s5
    have np20 : H p2 = none := s4.free np2
    let ks := res.map (·.1)
    have hkl : ks.length = cs.length := by show (res.map _).length = _; rw [List.length_map, l2]
    have hkin : ∀ i k, ks[i]? = some k → k < cs.length := fun i k e => tak_in ht k (List.mem_of_getElem? e)
    refine ⟨p2, rfl, ⟨_, .inl (.inl hp2)⟩, for_list (xs := iv ks) (fun i σ Hx => ∃ ds y3 xs, σ = [some x, some (.ref l), some (.ref ds), y3, none] ∧ Same H Hx ∧ Hx p2 = some (.lst (iv ks)) ∧ Sm P w K Hx ds (stAt cs ks i) ∧ Hx l = some (.lst xs) ∧ Paired (StE P w K Hx) xs (stEnts cs ks i))
      ⟨d, none, [], rfl, s05, hp2, hst3.tk (TK.same s5) fun _ z => s5 _ _ z, s5 _ _ hl4, .nil⟩ (fun i σ Hx hi p => ?_) (fun i x2 σ Hx hxi p => ?_) (fun σ Hx p => ?_)⟩
    · obtain ⟨_, _, _, _, _, e, _⟩ := p
      exact .inl (.inl e)
    · obtain ⟨ds, y3, xs, rfl, sm, hpx, hds, hlx, hxs⟩ := p
      obtain ⟨k, hk, rfl⟩ := iv_at hxi
      have hkc := hkin i k hk
      have hi : i < cs.length := by
        have := (List.getElem?_eq_some_iff.mp hk).1
        omega
      obtain ⟨wa, ac, ae, rfl, hwa, ⟨as, hac, hcs⟩, hae⟩ := hw.tk (TK.same sm)
      obtain ⟨ak, g1, hak⟩ := cs_get hcs hkc
      obtain ⟨o1, o2, o3⟩ := hst res ht i (Nat.le_of_lt hi)
      refine ⟨.ref ds, rfl, .ref wa, rfl, wa, _, 0, _, rfl, rfl, hwa.sq, rfl, .int (k : Nat), rfl, ac, _, (k : Nat), _, rfl, rfl, hac.sq, atI_nat g1, ds, stAt cs ks i, ak, cs.getD k [], rfl, hds, o1, fun e he => ⟨(o2 e he).1, Nat.le_trans (o2 e he).2 (by decide)⟩, hak, len4 h4 hkc, fun p6 H6 s6 np6 h6 => ?_⟩
      have hl6 : H6 l = some (.lst xs) := s6 _ _ hlx
      refine ⟨.ref l, rfl, .inl ⟨rfl, _, .inl (.inl hl6)⟩, .int (k : Nat), rfl, .ref p6, rfl, by show 2 ≤ sizeLine; decide, fun r nr => ⟨l, xs, .ref r, rfl, rfl, ?_, ?_, ?_⟩⟩
      · rw [upd_ne (ne_of_none hl6 nr)]
        exact hl6
      · rw [Paired.len hxs, stEnts_len]
        exact big5 (by omega)
      · have hl7 : upd H6 r (.tup [.int (k : Nat), .ref p6]) l = some (.lst xs) := by
          rw [upd_ne (ne_of_none hl6 nr)]
          exact hl6
        have s67 : Same H6 (upd H6 r (.tup [.int (k : Nat), .ref p6])) := Same.new nr
        have hpx7 : upd H6 r (.tup [.int (k : Nat), .ref p6]) p2 = some (.lst (iv ks)) := s67 _ _ (s6 _ _ hpx)
        have hrl : r ≠ l := fun z => by rw [z, hl6] at nr; cases nr
        have h6' : StE P w K (upd (upd H6 r (.tup [.int (k : Nat), .ref p6])) l (.lst (xs ++ [.ref r]))) (.ref r) (ks.getD i 0, stAt cs ks (i + 1)) := by
          refine StE.lst (xs := xs) ⟨r, p6, rfl, ?_, ?_⟩ hl7
          · rw [upd_same, List.getD_eq_getElem?_getD, hk]
            rfl
          · rw [stAt_succ hk]
            exact h6.tk (TK.same s67) fun _ z => s67 _ _ z
        have hst6 : Sm P w K (upd (upd H6 r (.tup [.int (k : Nat), .ref p6])) l (.lst (xs ++ [.ref r]))) p6 (stAt cs ks (i + 1)) := by
          rw [stAt_succ hk]
          refine (h6.tk (TK.same s67) fun _ z => s67 _ _ z).tk (TK.put hl7 fun _ z => nomatch z) fun o z => ?_
          obtain ⟨zs, c1, c2⟩ := h6
          rw [upd_ne (fun z2 => by rw [z2, hl6] at c1; cases c1)]
          exact z
        refine ⟨p6, some (.int (k : Nat)), xs ++ [.ref r], rfl, ?_, ?_, hst6, upd_same, ?_⟩
        · exact Same.over (((sm.trans s6)).trans s67) nl0
        · rw [upd_ne (Ne.symm nlp)]
          exact hpx7
        · rw [stEnts_succ]
          exact Paired.app (Paired.mapP hxs fun a b z => ((z.same s6).same s67).lst hl7) (.cons h6' .nil)
    · obtain ⟨ds, y3, xs, rfl, sm, hpx, hds, hlx, hxs⟩ := p
      rw [iv_len, hkl] at hxs
      have lxs : xs.length = cs.length := by rw [Paired.len hxs, stEnts_len]
      refine ⟨.ref l, rfl, l, rfl, ⟨_, .inl (.inl hlx)⟩, fun D nD => lc_list (xs := xs) (fun i Hy => Same Hx Hy ∧ ∃ acc, Hy D = some (.lst acc) ∧ Paired (StE P w K Hy) acc (stEnts cs ks i)) ⟨Same.new nD, [], upd_same, .nil⟩ (fun i Hy hi p => .inl (.inl (p.1 _ _ hlx))) (fun i x2 Hy hxi p => ?_) (fun Hy p => ?_)⟩
      · obtain ⟨sy, acc, hacc, hpr⟩ := p
        have hi : i < cs.length := by
          have := (List.getElem?_eq_some_iff.mp hxi).1
          omega
        obtain ⟨en, hen, t, dd, rfl, e1, ⟨zs, c1, c2⟩⟩ := paired_get hxs hxi
        rw [stEnts_at hi] at hen
        cases hen
        obtain ⟨o1, o2, o3⟩ := hst res ht (i + 1) hi
        refine ⟨t, _, rfl, .inl (.inl (sy _ _ e1)), rfl, _, _, rfl, _, _, rfl, rfl, rfl, lcYes ⟨.int (ks.getD i 0 : Nat), rfl, .ref dd, rfl, dd, zs, _, rfl, .inl (sy _ _ c1), c2.tk (TK.same sy), o3, fun p7 np7 => ?_⟩⟩
        refine ⟨by show 2 ≤ sizeLine; decide, fun r nr => ⟨acc, ?_, ?_, ?_, _, upd_same, ?_⟩⟩
        · have z : upd Hy p7 (SD P w p7 zs) D = some (.lst acc) := by
            rw [upd_ne (ne_of_none hacc np7)]
            exact hacc
          rw [upd_ne (ne_of_none z nr)]
          exact z
        · rw [Paired.len hpr, stEnts_len]
          exact big5 (by omega)
        · have z : Same Hx (upd Hy p7 (SD P w p7 zs)) := Same.over sy (sy.free np7)
          exact Same.over (Same.over z (z.free nr)) nD
        · have s7 : Same Hy (upd Hy p7 (SD P w p7 zs)) := Same.new np7
          have s8 : Same Hy (upd (upd Hy p7 (SD P w p7 zs)) r (.tup [.int (ks.getD i 0 : Nat), .ref p7])) := s7.trans (Same.new nr)
          have z : (upd (upd Hy p7 (SD P w p7 zs)) r (.tup [.int (ks.getD i 0 : Nat), .ref p7])) D = some (.lst acc) := s8 _ _ hacc
          rw [stEnts_succ]
          refine Paired.app (Paired.mapP hpr fun a b y => (y.same s8).lst z) (.cons (StE.lst ⟨r, p7, rfl, upd_same, zs, ?_, ?_⟩ z) .nil)
          · rw [upd_ne (fun y => by rw [← y, upd_same] at nr; cases nr), upd_same]
          · exact c2.tk (TK.same (sy.trans s8))
      · obtain ⟨sy, acc, hacc, hpr⟩ := p
        rw [lxs] at hpr
        exact q D Hy res acc (sm.trans sy) (sm.free nD) ht hacc hpr
end
end TH
end
section
set_option Elab.async false
set_option linter.all false
set_option maxRecDepth 100000
set_option maxHeartbeats 4000000
namespace TH
open PySem PySem.Spec PyProof.Rows L2
theorem wr_len {e : PL × PL} {rings j : Nat} (h : e.2.length ≤ 500) (hr : rings ≤ 4) (hj : j ≤ rings) : (withRings e.2 j).length ≤ 8000 := by
  have h2 : 2 ^ j ≤ 2 ^ 4 := Nat.pow_le_pow_right (by decide) (by omega)
  have h3 := withRings_len e.2 j
  have h4 := Nat.mul_le_mul h2 h
  omega
theorem sumsStep_count (ends : List Int) (rings : Nat) (f : List (PL × PL)) (e : PL × PL) : (sumsStep ends rings f e).length ≤ f.length + 1 := by
  unfold sumsStep putTo
  exact sput_len _ _ _
theorem Bd.sums {ends : List Int} {rings : Nat} (hr : rings ≤ 4) : ∀ {kvs f : List (PL × PL)} {B : Nat}, Bd B f → (∀ e ∈ kvs, e.2.length ≤ 500) → Bd (B + 8000 * kvs.length) (kvs.foldl (sumsStep ends rings) f)
  | [], f, B, h, _ => h
  | e :: kvs, f, B, h, hk => by
    have z := Bd.sums (ends := ends) hr (kvs := kvs) (f := sumsStep ends rings f e) (B := B + 8000) (Bd.put h (wr_len (hk e List.mem_cons_self) hr (Nat.le_refl _))) fun x hx => hk x (List.mem_cons_of_mem _ hx)
    intro J u q
    have := z J u q
    rw [List.length_cons]
    omega
theorem sums_count (ends : List Int) (rings : Nat) : ∀ (kvs f : List (PL × PL)), (kvs.foldl (sumsStep ends rings) f).length ≤ f.length + kvs.length
  | [], f => Nat.le_refl _
  | e :: kvs, f => by
    have z := sums_count ends rings kvs (sumsStep ends rings f e)
    have z1 := sumsStep_count ends rings f e
    show (kvs.foldl (sumsStep ends rings) (sumsStep ends rings f e)).length ≤ _
    rw [List.length_cons]
    omega
section
variable {P : Program} {w : World} {K : PySem.W.Frag} {mg : Str → Option Value} {base : Heap}
/-! ### sums -/
abbrev sSums : Stmt := topS 28
theorem scSums : FnScope ["web", "last", "number", "store", "found", "joining", "total"] ["web"] (defScope sSums) := ⟨rfl, rfl, rfl, by decide +kernel, rfl, by decide +kernel, by decide +kernel⟩
def spSums (P : Program) (w : World) (K : PySem.W.Frag) : Sp := fun vs H Q _ => ∃ x cs ends rings, vs = [x] ∧ WebAt K H x cs ends rings ∧ WebOk w cs ∧ ends.length ≤ 100 ∧ rings ≤ 4 ∧
  ∀ p H' res, Same H H' → H p = none → Tak cs [] (List.range cs.length) res → Sm P w K H' p (sumsOf (stAt cs (res.map (·.1)) cs.length) ends rings) → Q (.ref p) H'
theorem ok_sums {f : Addr} {fd : FuncData} {k : Nat} (F : Fun K "sums" "sums" sSums f fd) {aO : Addr} (gO : mg "ONE" = some (.ref aO)) (hO : ∀ H, Pl K H (.ref aO) pONE)
    (G1 : Cal P w K mg base k "stores" ["web"] (spStores P w K)) (G2 : Cal P w K mg base k "put_to" ["sums", "joining", "total"] (spPutTo P w K)) (G3 : Cal P w K mg base k "joining_of" ["ends", "strands"] (spJoiningOf K))
    (G4 : Cal P w K mg base k "strands_of" ["joining"] (spStrandsOf K)) (G5 : Cal P w K mg base k "with_rings" ["total", "rings"] (spWithRings K)) (G6 : Cal P w K mg base k "without_noughts" ["sums"] (spNoN P w K)) :
    FnOk P w K mg base CX0 (k + 1) f fd ["web"] (spSums P w K) := by
  refine F.ok scSums (fun vs H Q E h => ?_) (fun cdv A outer s H vs Q E hr h => ?_)
  · obtain ⟨x, cs, ends, rings, rfl, _⟩ := h
    rfl
  · obtain ⟨x, cs, ends, rings, rfl, hw, ok, hel, hrg, q⟩ := h
    obtain ⟨hl, h4, h8, hst⟩ := ok
    have hu := hu64 hr
    refine ⟨_, pss_cons (ps_set (i := 1) scSums.nd rfl (.inl rfl) (pe_sone hu (pe_tup pa_nil) (pe_glob (v := V.ref aO) rfl gO rfl)))
      (pss_cons (ps_for PassesOwn.never rfl (pi_list (pe_cal G1 hr (by rfl) (pa_cons (pv 0) pa_nil)))
          (pg_tup rfl (pgs_cons (pg_name (i := 2) scSums.nd rfl (.inl rfl)) (pgs_cons (pg_name (i := 3) scSums.nd rfl (.inl rfl)) pgs_nil)))
        (pss_one (ps_set (i := 1) scSums.nd rfl (.inl rfl) (pv 3))))
      (pss_cons (ps_set (i := 4) scSums.nd rfl (.inl rfl) pe_snew)
      (pss_cons (ps_lock (ps_for PassesOwn.never rfl (pi_sitems (pv 1))
          (pg_tup rfl (pgs_cons (pg_name (i := 5) scSums.nd rfl (.inl rfl)) (pgs_cons (pg_name (i := 6) scSums.nd rfl (.inl rfl)) pgs_nil)))
        (pss_one (ps_expr (pe_cal G2 hr (by rfl) (pa_cons (pv 4) (pa_cons (pe_cal G3 hr (by rfl) (pa_cons (pe_ix ix_tup (pv 0) pe_int (fun _ _ => rfl)) (pa_cons (pe_cal G4 hr (by rfl) (pa_cons (pv 5) pa_nil)) pa_nil)))
          (pa_cons (pe_cal G5 hr (by rfl) (pa_cons (pv 6) (pa_cons (pe_ix ix_tup (pv 0) pe_int (fun _ _ => rfl)) pa_nil))) pa_nil))))))))
      (pss_one (ps_ret (pe_cal G6 hr (by rfl) (pa_cons (pv 4) pa_nil))))))), ?_⟩
    intro d nd0
    refine ⟨Nat.zero_le _, fun e0 ne0 => ?_⟩
    have ned : e0 ≠ d := fun e => by rw [e, upd_same] at ne0; cases ne0
    have hd2 : (upd (upd H d (SD P w d [])) e0 (.tup [])) d = some (SD P w d []) := by rw [upd_ne (Ne.symm ned), upd_same]
    refine ⟨hd2, [], pONE, e0, aO, rfl, rfl, pl_nil, hO _, ?_⟩
    have s3 : Same H (upd (upd H d (SD P w d [])) e0 (.tup [])) := by
      have z : Same H (upd H d (SD P w d [])) := Same.new nd0
      exact Same.over z (z.free ne0)
    have hst3 : Sm P w K (upd (upd (upd H d (SD P w d [])) e0 (.tup [])) d (SD P w d [([], e0, aO)])) d store0 :=
      ⟨_, upd_same, .cons ⟨rfl, (pl_nil (H := upd H d (SD P w d []))).tk (TK.put hd2 fun _ z => nomatch z), hO _⟩ .nil⟩
    have s4 := Same.over (o := SD P w d [([], e0, aO)]) s3 nd0
    refine ⟨x, rfl, x, cs, ends, rings, rfl, hw.tk (TK.same s4), ⟨hl, h4, h8, hst⟩, fun p2 H5 res xs s5 np2 ht hp2 hxs => ?_⟩
    have s05 := s4.trans s5
    let ks := res.map (·.1)
    have lxs : xs.length = cs.length := by rw [Paired.len hxs, stEnts_len]
    refine ⟨p2, rfl, ⟨_, .inl (.inl hp2)⟩, for_list (xs := xs) (fun i σ Hx => ∃ ds y2 y3, σ = [some x, some (.ref ds), y2, y3, none, none, none] ∧ Same H5 Hx ∧ Sm P w K Hx ds (stAt cs ks i))
      ⟨d, none, none, rfl, fun b o e => e, hst3.tk (TK.same s5) fun _ z => s5 _ _ z⟩ (fun i σ Hx hi p => ?_) (fun i x2 σ Hx hxi p => ?_) (fun σ Hx p => ?_)⟩
    · obtain ⟨_, _, _, _, e, _⟩ := p
      exact .inl (.inl (e _ _ hp2))
    · obtain ⟨ds, y2, y3, rfl, sm, hds⟩ := p
      have hi : i < cs.length := by
        have := (List.getElem?_eq_some_iff.mp hxi).1
        omega
      obtain ⟨en, hen, t, dd, rfl, e1, h1⟩ := paired_get hxs hxi
      rw [stEnts_at hi] at hen
      cases hen
      refine ⟨t, _, rfl, .inl (.inl (sm _ _ e1)), rfl, _, _, rfl, _, _, rfl, rfl, ?_⟩
      exact ⟨.ref dd, rfl, dd, _, _, rfl, sm, h1.tk (TK.same sm) fun _ z => sm _ _ z⟩
    · obtain ⟨ds, y2, y3, rfl, sm, hds⟩ := p
      rw [lxs] at hds
      obtain ⟨zs, hdz, sx⟩ := hds
      obtain ⟨o1, o2, o3⟩ := hst res ht cs.length (Nat.le_refl _)
      have s0x := s05.trans sm
      intro p np
      have ndp : ds ≠ p := ne_of_none hdz np
      have np0 : H p = none := s0x.free np
      have lx : zs.length = (stAt cs ks cs.length).length := Paired.len sx
      refine ⟨ds, SD P w ds zs, by rw [upd_ne ndp]; exact hdz, True.intro, fun od => ?_⟩
      refine ⟨.ref ds, rfl, ds, od, zs, rfl, upd_same, for_s (fun i σ Hc => ∃ y5 y6, σ = [some x, some (.ref ds), y2, y3, some (.ref p), y5, y6] ∧ SameX ds Hx Hc ∧ Hc ds = some (.frz od (SD P w ds zs)) ∧ ∃ ys, Hc p = some (SD P w p ys) ∧ SXr K Hc ys (((stAt cs ks cs.length).take i).foldl (sumsStep ends rings) []))
        ⟨none, none, rfl, fun b o nb e => ?_, upd_same, [], ?_, .nil⟩ (fun i σ Hc hi p => ?_) (fun i y σ Hc T hy pv nT => ?_) (fun σ Hc pv => ?_)⟩
      · rw [upd_ne nb, upd_ne (ne_of_none e np)]
        exact e
      · rw [upd_ne (Ne.symm ndp), upd_same]
        rfl
      · obtain ⟨_, _, _, _, e, _⟩ := p
        exact e
      · obtain ⟨y5, y6, rfl, sc, hdc, ys, hp, sy⟩ := pv
        obtain ⟨kv, hkv, e1, hJ, htt⟩ := paired_get sx hy
        have kT : TK Hx (upd Hc T (.tup [.ref y.2.1, .ref y.2.2])) := (sc.tk hdz (fun _ z => nomatch z)).trans (TK.new nT)
        have s0 : Same Hc (upd Hc T (.tup [.ref y.2.1, .ref y.2.2])) := Same.new nT
        obtain ⟨hJl, htl⟩ := o2 kv (List.mem_of_getElem? hkv)
        have hbd := Bd.sums (ends := ends) hrg (kvs := (stAt cs ks cs.length).take i) (f := []) (B := 0) (fun J u e => nomatch e) fun e he => (o2 e (List.mem_of_mem_take he)).2
        have hcn := sums_count ends rings ((stAt cs ks cs.length).take i) []
        have htk : ((stAt cs ks cs.length).take i).length ≤ 4 := by
          rw [List.length_take]
          exact Nat.le_trans (Nat.min_le_right _ _) o1
        rw [List.length_nil] at hcn
        have e3 : ((stAt cs ks cs.length).take (i + 1)).foldl (sumsStep ends rings) [] = sumsStep ends rings (((stAt cs ks cs.length).take i).foldl (sumsStep ends rings) []) kv := by rw [List.take_add_one, hkv, List.foldl_append]; rfl
        obtain ⟨wa, ac, ae, rfl, hwa, hac, hae⟩ := (hw.tk (TK.same s0x)).tk kT
        refine ⟨T, _, rfl, .inl (.inl upd_same), rfl, _, _, rfl, _, _, rfl, rfl, ?_⟩
        refine ⟨.ref p, rfl, .ref wa, rfl, wa, _, 1, _, rfl, rfl, hwa.sq, rfl, .ref y.2.1, rfl, .ref y.2.1, kv.1, rfl, hJ.tk kT, hJl, fun p3 H3 s3 np3 hp3 => ?_⟩
        refine ⟨ae, p3, ends, _, rfl, hae.tk (TK.same s3), hel, hp3, fun vJ H4 s4 hJ4 => ?_⟩
        have k4 := kT.trans (TK.same (s3.trans s4))
        refine ⟨.ref y.2.2, rfl, .ref wa, rfl, wa, _, 2, _, rfl, rfl, (hwa.tk (TK.same (s3.trans s4))).sq, rfl, .ref y.2.2, kv.2, rings, rfl, htt.tk k4, by omega, fun j hj => Nat.le_trans (wr_len htl hrg hj) (by decide), fun v5 H5 s5 h5 => ?_⟩
        have s35 := (s3.trans s4).trans s5
        have sc5 : Same Hc H5 := s0.trans s35
        refine ⟨p, ys, _, vJ, v5, _, _, rfl, sc5 _ _ hp, sy.tk (TK.same sc5), by omega, hJ4.tk (TK.same s5), h5, Nat.le_trans (wr_len htl hrg (Nat.le_refl _)) (by decide), fun u e => ?_, fun H8 qs s8 hp8 sz => ?_⟩
        · have := hbd _ u e
          omega
        · refine ⟨_, _, rfl, fun b o nb e => s8 b o (ne_of_none e np) (sc5 _ _ (sc b o nb e)), s8 _ _ ndp (sc5 _ _ hdc), qs, hp8, ?_⟩
          rw [e3]
          exact sz
      · obtain ⟨y5, y6, rfl, sc, hdc, ys, hp, sy⟩ := pv
        rw [lx, List.take_length] at sy
        have hcn := sums_count ends rings (stAt cs ks cs.length) []
        rw [List.length_nil] at hcn
        have sH : Same Hx (upd Hc ds (SD P w ds zs)) := fun b o e => by
          by_cases nb : b = ds
          · subst nb
            rw [upd_same, ← e, hdz]
          · rw [upd_ne nb]
            exact sc b o nb e
        refine ⟨hdc, .ref p, rfl, p, _, rfl, ⟨ys, ?_, sy.tk (TK.put hdc (fun _ z => nomatch z))⟩, Nat.le_trans hcn (Nat.le_trans (Nat.le_of_eq (Nat.zero_add _)) (Nat.le_trans o1 (by decide))), fun p9 H9 s9 np9 h9 => q p9 H9 res ((s0x.trans sH).trans s9) ((s0x.trans sH).free np9) ht h9⟩
        rw [upd_ne (Ne.symm ndp)]
        exact hp
end
end TH
end
section
set_option Elab.async false
set_option linter.all false
set_option maxRecDepth 100000
set_option maxHeartbeats 4000000
namespace TH
open PySem PySem.Spec PyProof.Rows L2
section
variable {P : Program} {w : World} {K : PySem.W.Frag} {mg : Str → Option Value} {base : Heap}
/-! ### _law_cell_at -/
abbrev sCellAt : Stmt := topS 30
theorem scCellAt : FnScope ["_law_script", "_law_k"] ["_law_script", "_law_k"] (defScope sCellAt) := ⟨rfl, rfl, rfl, by decide +kernel, rfl, by decide +kernel, by decide +kernel⟩
def spCellAt (K : PySem.W.Frag) : Sp := fun vs H Q _ => ∃ (a : Addr) (ns : List Int), vs = [.ref a, .int 0] ∧ SqL K H a (ns.map V.int) ∧ ns.length ≤ 100000 ∧ ∀ i, Q (.int i) H
theorem ok_cellAt {f : Addr} {fd : FuncData} {k : Nat} (F : Fun K "_law_cell_at" "_law_cell_at" sCellAt f fd) (mn : mg "len" = none) : FnOk P w K mg base CX0 (k + 1) f fd ["_law_script", "_law_k"] (spCellAt K) := by
  refine F.ok scCellAt (fun vs H Q E h => ?_) (fun cdv A outer s H vs Q E hr h => ?_)
  · obtain ⟨a, ns, rfl, _⟩ := h
    rfl
  · obtain ⟨a, ns, rfl, ha, hl, q⟩ := h
    refine ⟨_, pss_cons (ps_if (pt_cmpR op_lt (pv 1) (pe_callB call_len (by rfl) mn PySem.boot_len (pa_cons (pv 0) pa_nil)) (nomark _)) (pss_one (ps_ret (pe_ix ix_list (pv 0) (pv 1) (fun _ _ => rfl)))) pss_nil)
      (pss_one (ps_ret pe_int)), ?_⟩
    refine ⟨.int 0, rfl, .ref a, rfl, .ref a, ns.length, rfl, .inl ⟨_, ha, by rw [List.length_map]⟩, 0, (ns.length : Int), rfl, rfl, _, rfl, ite2 (fun e => ?_) (fun e => ?_)⟩
    · have h0 : 0 < ns.length := by have := of_decide_eq_true e; omega
      refine ⟨.ref a, rfl, .int 0, rfl, a, _, 0, .int ns[0], rfl, rfl, ha, ?_, q _⟩
      refine atI_nat (j := 0) ?_
      rw [List.getElem?_map, List.getElem?_eq_getElem h0]
      rfl
    · exact q 0
/-! ### _law_take -/
abbrev sTake : Stmt := topS 31
theorem scTake : FnScope ["_law_row_here", "_law_base", "_law_rest", "_law_number"] ["_law_row_here", "_law_base"] (defScope sTake) := ⟨rfl, rfl, rfl, by decide +kernel, rfl, by decide +kernel, by decide +kernel⟩
/-- the row of numbers that digits are taken from -/
def RowAt (H : Hp) (l : Addr) (n : Nat) : Prop := ∃ s : Int, H l = some (.lst [.int s, .int (n : Nat)])
def spTake : Sp := fun vs H Q _ => ∃ (l : Addr) (n : Nat) (b : Int), vs = [.ref l, .int b] ∧ RowAt H l n ∧ n ≤ 100000 ∧ 0 < b ∧ b < 1073741824 ∧ ∀ v H', SameX l H H' → RowAt H' l (n + 1) → 0 ≤ v → v < b → Q (.int v) H'
theorem ok_take {f : Addr} {fd : FuncData} {k : Nat} (F : Fun K "_law_take" "_law_take" sTake f fd) : FnOk P w K mg base CX0 (k + 1) f fd ["_law_row_here", "_law_base"] spTake := by
  refine F.ok scTake (fun vs H Q E h => ?_) (fun cdv A outer s H vs Q E hr h => ?_)
  · obtain ⟨l, n, b, rfl, _⟩ := h
    rfl
  · obtain ⟨l, n, b, rfl, ⟨s0, hl⟩, hn, hb, hb2, q⟩ := h
    refine ⟨_, pss_cons (ps_asg (pe_op op_add (pe_ix ix_list (pv 0) pe_int (fun _ _ => rfl)) pe_int) (pg_sub (pv 0) pe_int set_list))
      (pss_cons (ps_if (pt_cmpR op_gt (pe_ix ix_list (pv 0) pe_int (fun _ _ => rfl)) (pe_op op_pow pe_int pe_int) (nomark _))
        (pss_cons (ps_set (i := 2) scTake.nd rfl (.inl rfl) (pe_op op_sub (pe_ix ix_list (pv 0) pe_int (fun _ _ => rfl)) (pe_op op_pow pe_int pe_int)))
        (pss_cons (ps_asg (pe_op op_add (pe_op op_pow pe_int pe_int) (pe_op op_fdiv (pv 2) (pv 1))) (pg_sub (pv 0) pe_int set_list))
        (pss_one (ps_ret (pe_op op_mod (pv 2) (pv 1)))))) pss_nil)
      (pss_cons (ps_set (i := 3) scTake.nd rfl (.inl rfl) (pe_op op_mod (pe_op op_add (pe_op op_add (pe_op op_mul (pe_ix ix_list (pv 0) pe_int (fun _ _ => rfl)) pe_int)
          (pe_op op_mul (pe_op op_mul pe_int (pe_ix ix_list (pv 0) pe_int (fun _ _ => rfl))) (pe_ix ix_list (pv 0) pe_int (fun _ _ => rfl)))) pe_int) pe_int))
      (pss_cons (ps_set (i := 3) scTake.nd rfl (.inl rfl) (pe_op op_mod (pe_op op_add (pe_op op_add (pe_op op_mul (pv 3) (pv 3)) (pe_op op_mul pe_int (pe_ix ix_list (pv 0) pe_int (fun _ _ => rfl)))) pe_int) pe_int))
      (pss_one (ps_ret (pe_op op_mod (pe_op op_fdiv (pv 3) pe_int) (pv 1))))))), ?_⟩
    refine ⟨.ref l, rfl, l, _, 1, .int (n : Nat), rfl, rfl, .inl (.inl hl), rfl, (n : Nat), 1, rfl, rfl, .ref l, rfl, l, _, 1, 1, rfl, rfl, hl, rfl, ?_⟩
    have h1 : upd H l (.lst [.int s0, .int ((n : Int) + 1)]) l = some (.lst [.int s0, .int ((n : Int) + 1)]) := upd_same
    have sm1 : SameX l H (upd H l (.lst [.int s0, .int ((n : Int) + 1)])) := SameX.upd
    show tSeq _ _ _ _ (upd H l (.lst [.int s0, .int ((n : Int) + 1)]))
    generalize upd H l (.lst [.int s0, .int ((n : Int) + 1)]) = H1 at h1 sm1
    refine ⟨.ref l, rfl, l, _, 0, .int s0, rfl, rfl, .inl (.inl h1), rfl, 10, 18, rfl, rfl, ⟨by decide, by decide, by decide⟩, s0, _, rfl, rfl, _, rfl, ite2 (fun e => ?_) (fun e => ?_)⟩
    · refine ⟨.ref l, rfl, l, _, 0, .int s0, rfl, rfl, .inl (.inl h1), rfl, 10, 18, rfl, rfl, ⟨by decide, by decide, by decide⟩, s0, _, rfl, rfl, ?_⟩
      refine ⟨10, 18, rfl, rfl, ⟨by decide, by decide, by decide⟩, .int (s0 - 10 ^ (18 : Int).toNat), rfl, .int b, rfl, _, b, rfl, rfl, ⟨hb, hb2⟩, _, _, rfl, rfl, .ref l, rfl, l, _, 0, 0, rfl, rfl, h1, rfl, ?_⟩
      refine ⟨.int (s0 - 10 ^ (18 : Int).toNat), rfl, .int b, rfl, _, b, rfl, rfl, hb, q _ _ (sm1.trans SameX.upd) ⟨10 ^ (18 : Int).toNat + (s0 - 10 ^ (18 : Int).toNat) / b, ?_⟩ (Int.emod_nonneg _ (by omega)) (Int.emod_lt_of_pos _ hb)⟩
      rw [upd_same]
      rfl
    · have hn64 : -(2 ^ 64) < (7919 : Int) ∧ (7919 : Int) < 2 ^ 64 := by decide
      have hm : (0 : Int) < 2147483629 := by decide
      have hm2 : (0 : Int) < 2147483587 := by decide
      have hx : (0 : Int) ≤ (s0 * 48271 + 7919 * ((n : Int) + 1) * ((n : Int) + 1) + 11) % 2147483629 := Int.emod_nonneg _ (by decide)
      have hy : (s0 * 48271 + 7919 * ((n : Int) + 1) * ((n : Int) + 1) + 11) % 2147483629 < 2147483629 := Int.emod_lt_of_pos _ (by decide)
      refine ⟨.ref l, rfl, l, _, 0, .int s0, rfl, rfl, .inl (.inl h1), rfl, s0, 48271, rfl, rfl, .inr ⟨by decide, by decide⟩, ?_⟩
      refine ⟨.ref l, rfl, l, _, 1, _, rfl, rfl, .inl (.inl h1), rfl, 7919, (n : Int) + 1, rfl, rfl, .inl hn64, ?_⟩
      refine ⟨.ref l, rfl, l, _, 1, _, rfl, rfl, .inl (.inl h1), rfl, 7919 * ((n : Int) + 1), (n : Int) + 1, rfl, rfl, .inr ⟨by omega, by omega⟩, ?_⟩
      refine ⟨_, _, rfl, rfl, _, 11, rfl, rfl, _, 2147483629, rfl, rfl, hm, ?_⟩
      refine ⟨_, rfl, _, rfl, _, _, rfl, rfl, .inl ⟨by omega, by omega⟩, ?_⟩
      refine ⟨.ref l, rfl, l, _, 1, _, rfl, rfl, .inl (.inl h1), rfl, 69621, (n : Int) + 1, rfl, rfl, .inl ⟨by decide, by decide⟩, ?_⟩
      refine ⟨_, _, rfl, rfl, _, 7, rfl, rfl, _, 2147483587, rfl, rfl, hm2, ?_⟩
      refine ⟨_, rfl, _, 5, rfl, rfl, ⟨by decide, by decide⟩, .int b, rfl, _, b, rfl, rfl, hb, q _ _ sm1 ⟨_, h1⟩ (Int.emod_nonneg _ (by omega)) (Int.emod_lt_of_pos _ hb)⟩
end
end TH
end
section
set_option Elab.async false
set_option linter.all false
set_option maxRecDepth 100000
set_option maxHeartbeats 4000000
namespace TH
open PySem PySem.Spec PyProof.Rows L2
def arcsOf (p o l : Int) (many : Nat) : List Int := (List.range many).map fun k => (o + (k : Nat) * l) % p
theorem arcsOf_succ (p o l : Int) (i : Nat) : arcsOf p o l (i + 1) = arcsOf p o l i ++ [(o + (i : Nat) * l) % p] := by
  unfold arcsOf
  rw [List.range_succ, List.map_append]
  rfl
def lputStep (more : PL) (lift by_ : Int) (d : PL) (k : Int) : PL := dp d (k + lift) ((dv d (k + lift)).getD 0 + by_ * (dv more k).getD 0)
def lput (nm more : PL) (lift by_ : Int) : PL := (more.map (·.1)).foldl (lputStep more lift by_) nm
theorem lput_len (more : PL) (lift by_ : Int) : ∀ (ks : List Int) (d : PL), (ks.foldl (lputStep more lift by_) d).length ≤ d.length + ks.length
  | [], d => Nat.le_refl _
  | k :: ks, d => by
    have h1 := lput_len more lift by_ ks (lputStep more lift by_ d k)
    have h2 := dp_len d (k + lift) ((dv d (k + lift)).getD 0 + by_ * (dv more k).getD 0)
    show (ks.foldl _ (lputStep more lift by_ d k)).length ≤ _
    rw [List.length_cons]
    unfold lputStep at h1 ⊢
    omega
def lring (nm : PL) : Nat → PL
  | 0 => nm
  | n + 1 => lput (lput [] (lring nm n) 2 (-1)) (lring nm n) (-2) (-1)
def lpoly (nm : PL) : PL := gfin nm (sortI (nm.map (·.1)))
/-- the loop over the keys of a locked dict -/
theorem for_k {d : Addr} {o : Obj} {kvs : List (Key × V)} {g : TG} {tb : TS} {D : Ends} {σ : L2.St} {H : Hp} (Pv : Nat → L2.St → Hp → Prop) (h0 : Pv 0 σ H) (hl : ∀ i σ H, i ≤ kvs.length → Pv i σ H → H d = some (.frz o (.dK kvs)))
    (hs : ∀ i y σ H, kvs[i]? = some y → Pv i σ H → g (kV y.1) σ H fun σ2 H2 => tb { D with nx := Pv (i + 1), ct := Pv (i + 1), bk := D.nx } σ2 H2) (hd : ∀ σ H, Pv kvs.length σ H → D.nx σ H) :
    ∃ W : Nat → Nat → L2.St → Hp → Prop, (∃ m, W 0 m σ H) ∧ ∀ i m σ H, W i m σ H →
      ((Itk d o kvs).stop i H ∧ D.nx σ H) ∨ ((Itk d o kvs).go i H ∧ ∃ N : L2.St → Hp → Prop, (∀ σ' H', N σ' H' → ∃ m', m' < m ∧ W (i + 1) m' σ' H') ∧ ∀ x H', (Itk d o kvs).yld i H x H' → g x σ H' fun σ2 H2 => tb { D with nx := N, ct := N, bk := D.nx } σ2 H2) := by
  refine ⟨fun i m σ H => m = kvs.length - i ∧ i ≤ kvs.length ∧ Pv i σ H, ⟨kvs.length, by simp, Nat.zero_le _, h0⟩, ?_⟩
  rintro i m σ H ⟨rfl, hi, p⟩
  have q := hl i σ H hi p
  by_cases hlt : i < kvs.length
  · refine .inr ⟨⟨q, hlt⟩, Pv (i + 1), fun σ' H' p' => ⟨kvs.length - (i + 1), by omega, rfl, hlt, p'⟩, fun x H' y => ?_⟩
    obtain ⟨rfl, k, v, hy, rfl⟩ := y
    exact hs i (k, v) σ H' hy p
  · have e : i = kvs.length := by omega
    subst e
    exact .inl ⟨⟨q, Nat.le_refl _⟩, hd σ H p⟩
section
variable {P : Program} {w : World} {K : PySem.W.Frag} {mg : Str → Option Value} {base : Heap}
theorem RowAt.sameX {l d : Addr} {H H' : Hp} {n : Nat} (h : RowAt H l n) (s : SameX d H H') (ne : l ≠ d) : RowAt H' l n := let ⟨a, b⟩ := h; ⟨a, s _ _ ne b⟩
theorem RowAt.same {l : Addr} {H H' : Hp} {n : Nat} (h : RowAt H l n) (s : Same H H') : RowAt H' l n := let ⟨a, b⟩ := h; ⟨a, s _ _ b⟩
theorem SameX.free {d a : Addr} {H H' : Hp} (s : SameX d H H') (h : H' a = none) (ne : a ≠ d) : H a = none := by
  cases e : H a with
  | none => rfl
  | some o => rw [s a o ne e] at h; cases h
/-! ### _law_arcs -/
abbrev sArcs : Stmt := topS 32
theorem scArcs : FnScope ["_law_row_here", "_law_many", "_law_prime", "_law_leap", "_law_offset", "_law_k"] ["_law_row_here", "_law_many"] (defScope sArcs) := ⟨rfl, rfl, rfl, by decide +kernel, rfl, by decide +kernel, by decide +kernel⟩
def spArcs : Sp := fun vs H Q _ => ∃ (l : Addr) (n many : Nat), vs = [.ref l, .int (many : Nat)] ∧ RowAt H l n ∧ n ≤ 90000 ∧ many ≤ 1000 ∧
  ∀ a H' p o lp, SameX l H H' → H a = none → RowAt H' l (n + 3) → (p = 101 ∨ p = 10007 ∨ p = 999999937) → 0 ≤ o → o < p → 1 ≤ lp → lp < p → H' a = some (.lst ((arcsOf p o lp many).map V.int)) → Q (.ref a) H'
theorem ok_arcs {f : Addr} {fd : FuncData} {k : Nat} (F : Fun K "_law_arcs" "_law_arcs" sArcs f fd) (G : Cal P w K mg base k "_law_take" ["_law_row_here", "_law_base"] spTake) (mr : mg "range" = none) : FnOk P w K mg base CX0 (k + 1) f fd ["_law_row_here", "_law_many"] spArcs := by
  refine F.ok scArcs (fun vs H Q E h => ?_) (fun cdv A outer s H vs Q E hr h => ?_)
  · obtain ⟨l, n, many, rfl, _⟩ := h
    rfl
  · obtain ⟨l, n, many, rfl, hl, hn, hm, q⟩ := h
    refine ⟨_, pss_cons (ps_set (i := 2) scArcs.nd rfl (.inr rfl) (pe_ix ix_list (pe_lst (pa_cons pe_int (pa_cons pe_int (pa_cons pe_int pa_nil)))) (pe_cal G hr (by rfl) (pa_cons (pv 0) (pa_cons pe_int pa_nil))) (fun _ _ => rfl)))
      (pss_cons (ps_set (i := 3) scArcs.nd rfl (.inr rfl) (pe_op op_add pe_int (pe_cal G hr (by rfl) (pa_cons (pv 0) (pa_cons (pe_op op_sub (pv 2) pe_int) pa_nil)))))
      (pss_cons (ps_set (i := 4) scArcs.nd rfl (.inr rfl) (pe_cal G hr (by rfl) (pa_cons (pv 0) (pa_cons (pv 2) pa_nil))))
      (pss_one (ps_ret (pe_lc (own := [("_law_k", 5)]) (g := gName 5) rfl scArcs.nd (pi_range1 rfl mr (pa_cons (pv 1) pa_nil))
          (blkOk_by (own := [("_law_k", 5)]) (N := ["_law_row_here", "_law_many", "_law_prime", "_law_leap", "_law_offset", "_law_k"]) (sc := defScope sArcs) (by decide +kernel))
          (fun _ _ _ _ _ => pg_name (i := 5) scArcs.nd rfl (Or.inl rfl)) (fun _ _ _ _ _ => pts_nil)
          (fun _ _ _ _ _ => pe_op op_mod (pe_op op_add (pv 4) (pe_op op_mul (pv 5) (pv 3))) (pv 2))))))), ?_⟩
    have : True := trivial
    refine ⟨by show 3 ≤ sizeLine; decide, fun a0 na0 => ?_⟩
    obtain ⟨s0, hl0⟩ := hl
    have nla : l ≠ a0 := ne_of_none hl0 na0
    have s1 : Same H (upd H a0 (.lst [.int 101, .int 10007, .int 999999937])) := Same.new na0
    refine ⟨.ref l, rfl, l, n, 3, rfl, ⟨s0, s1 _ _ hl0⟩, by omega, by decide, by decide, fun v H1 sx1 r1 v0 v3 => ?_⟩
    have ha1 : H1 a0 = some (.lst [.int 101, .int 10007, .int 999999937]) := sx1 _ _ (Ne.symm nla) upd_same
    have sm1 : SameX l H H1 := (SameX.of s1).trans sx1
    have hp : ∃ p : Int, (p = 101 ∨ p = 10007 ∨ p = 999999937) ∧ atI [V.int 101, V.int 10007, V.int 999999937] v = some (.int p) := by
      have : v = 0 ∨ v = 1 ∨ v = 2 := by omega
      rcases this with rfl | rfl | rfl
      · exact ⟨101, .inl rfl, rfl⟩
      · exact ⟨10007, .inr (.inl rfl), rfl⟩
      · exact ⟨999999937, .inr (.inr rfl), rfl⟩
    obtain ⟨p, hp, hat⟩ := hp
    have hp1 : 100 < p := by omega
    have hp2 : p < 1073741824 := by omega
    refine ⟨a0, _, v, _, rfl, rfl, .inl (.inl ha1), hat, ?_⟩
    refine ⟨.ref l, rfl, .int p, rfl, p, 1, rfl, rfl, l, n + 1, p - 1, rfl, r1, by omega, by omega, by omega, fun v2 H2 sx2 r2 w0 w1 => ⟨1, v2, rfl, rfl, ?_⟩⟩
    refine ⟨.ref l, rfl, .int p, rfl, l, n + 1 + 1, p, rfl, r2, by omega, by omega, by omega, fun v3 H3 sx3 r3 u0 u1 => ?_⟩
    have sm3 : SameX l H H3 := (sm1.trans sx2).trans sx3
    refine ⟨.int (many : Nat), rfl, (many : Nat), rfl, by omega, by omega, fun D nD => lc_range (n := many) (fun i Hx => Same H3 Hx ∧ Hx D = some (.lst ((arcsOf p v3 (1 + v2) i).map V.int))) ⟨Same.new nD, upd_same⟩ (fun i Hx hi pv => ?_) (fun Hx pv => ?_)⟩
    · obtain ⟨sx, hD⟩ := pv
      rw [Int.zero_add]
      refine ⟨rfl, lcYes ⟨.int v3, rfl, .int (i : Nat), rfl, .int (1 + v2), rfl, (i : Nat), 1 + v2, rfl, rfl, .inl ⟨by omega, by omega⟩, v3, _, rfl, rfl, .int p, rfl, _, p, rfl, rfl, by omega, _, hD, ?_, Same.over sx nD, ?_⟩⟩
      · rw [List.length_map]
        unfold arcsOf
        rw [List.length_map, List.length_range]
        exact big5 (by omega)
      · rw [upd_same, arcsOf_succ, List.map_append]
        rfl
    · obtain ⟨sx, hD⟩ := pv
      have nDl : D ≠ l := fun z => by
        obtain ⟨s3, r3⟩ := r3
        rw [z, r3] at nD
        cases nD
      exact q D Hx p v3 (1 + v2) (sm3.trans (SameX.of sx)) (sm3.free nD nDl) (r3.same sx) hp u0 u1 (by omega) (by omega) hD
/-! ### _law_put -/
abbrev sPut : Stmt := topS 33
theorem scPut : FnScope ["_law_numbers", "_law_more", "_law_lift", "_law_by", "_law_power"] ["_law_numbers", "_law_more", "_law_lift", "_law_by"] (defScope sPut) := ⟨rfl, rfl, rfl, by decide +kernel, rfl, by decide +kernel, by decide +kernel⟩
def spPut : Sp := fun vs H Q _ => ∃ (d e : Addr) (nm more : PL) (lift by_ : Int), vs = [.ref d, .ref e, .int lift, .int by_] ∧ d ≠ e ∧ H d = some (.dK (dm nm)) ∧ H e = some (.dK (dm more)) ∧ nm.length ≤ 10000 ∧ more.length ≤ 10000 ∧ -(2 ^ 64) < by_ ∧ by_ < 2 ^ 64 ∧
  ∀ H', SameX d H H' → H' d = some (.dK (dm (lput nm more lift by_))) → Q .non H'
theorem ok_put {f : Addr} {fd : FuncData} {k : Nat} (F : Fun K "_law_put" "_law_put" sPut f fd) : FnOk P w K mg base CX0 (k + 1) f fd ["_law_numbers", "_law_more", "_law_lift", "_law_by"] spPut := by
  refine F.ok scPut (fun vs H Q E h => ?_) (fun cdv A outer s H vs Q E hr h => ?_)
  · obtain ⟨d, e, nm, more, lift, by_, rfl, _⟩ := h
    rfl
  · obtain ⟨d, e, nm, more, lift, by_, rfl, nde, hd, he, ln, lm, b1, b2, q⟩ := h
    have hu := hu_of hr
    refine ⟨_, pss_one (ps_lock (ps_for PassesOwn.never rfl (pi_keys (pv 1)) (pg_name (i := 4) scPut.nd rfl (.inl rfl))
        (pss_one (ps_dput hu (pv 0) (pe_op op_add (pv 4) (pv 2)) (pe_op op_add (pe_dget2 hu (pv 0) (pe_op op_add (pv 4) (pv 2)) pe_int ⟨rfl, rfl, rfl, rfl⟩) (pe_op op_mul (pv 3) (pe_dget hu (pv 1) (pv 4) (fun _ _ => rfl)))) rfl)))), ?_⟩
    refine ⟨e, .dK (dm more), he, True.intro, fun od => ?_⟩
    refine ⟨.ref e, rfl, e, od, rfl, .inl ⟨dm more, upd_same, for_k (fun i σ Hc => ∃ y4, σ = [some (.ref d), some (.ref e), some (.int lift), some (.int by_), y4] ∧ (∀ b o, b ≠ d → b ≠ e → H b = some o → Hc b = some o) ∧ Hc e = some (.frz od (.dK (dm more))) ∧
      Hc d = some (.dK (dm (((more.map (·.1)).take i).foldl (lputStep more lift by_) nm)))) ⟨none, rfl, fun b o n1 n2 eb => by rw [upd_ne n2]; exact eb, upd_same, by rw [upd_ne nde]; exact hd⟩ (fun i σ Hc hi pv => ?_) (fun i y σ Hc hy pv => ?_) (fun σ Hc pv => ?_)⟩⟩
    · obtain ⟨_, _, _, x, _⟩ := pv
      exact x
    · obtain ⟨y4, rfl, sm, hec, hdc⟩ := pv
      have hi : (more.map (·.1))[i]? = some ((more.map (·.1)).getD i 0) ∧ y.1 = Sum.inl ((more.map (·.1)).getD i 0) := by
        unfold dm at hy
        rw [List.getElem?_map] at hy
        obtain ⟨t, ht, rfl⟩ := Option.map_eq_some_iff.mp hy
        have : (more.map (·.1))[i]? = some t.1 := by rw [List.getElem?_map, ht]; rfl
        rw [List.getD_eq_getElem?_getD, this]
        exact ⟨rfl, rfl⟩
      obtain ⟨hk, ey⟩ := hi
      generalize (more.map (·.1)).getD i 0 = k at hk ey
      rw [ey]
      obtain ⟨v, hv⟩ := dv_mem (List.mem_of_getElem? hk)
      have hz := lput_len more lift by_ ((more.map (·.1)).take i) nm
      have hz2 : ((more.map (·.1)).take i).length ≤ more.length := by
        rw [List.length_take, List.length_map]
        exact Nat.min_le_right _ _
      have e3 : ((more.map (·.1)).take (i + 1)).foldl (lputStep more lift by_) nm = lputStep more lift by_ (((more.map (·.1)).take i).foldl (lputStep more lift by_) nm) k := by rw [List.take_add_one, hk, List.foldl_append]; rfl
      generalize ((more.map (·.1)).take i).foldl (lputStep more lift by_) nm = D0 at hdc hz e3
      refine ⟨.ref d, rfl, d, rfl, .inl ⟨_, .inl hdc⟩, .int k, rfl, .int lift, rfl, k, lift, rfl, rfl, _, DGet.k (k := Sum.inl (k + lift)) hdc, .int by_, rfl, .ref e, rfl, .int k, rfl, e, .int v, rfl, .inl ⟨_, Sum.inl k, .inr ⟨od, hec⟩, rfl, by rw [dm_val, hv]; rfl⟩, by_, v, rfl, rfl, .inl ⟨b1, b2⟩, ?_⟩
      refine ⟨(dv D0 (k + lift)).getD 0, by_ * v, ?_, rfl, .ref d, rfl, .int k, rfl, .int lift, rfl, k, lift, rfl, rfl, d, _, rfl, DPut.k (k := Sum.inl (k + lift)) hdc (by rw [dm_len]; exact big5 (by omega)), ?_⟩
      · rw [dm_val]
        cases dv D0 (k + lift) <;> rfl
      · refine ⟨some (.int k), rfl, fun b o n1 n2 eb => ?_, ?_, ?_⟩
        · rw [upd_ne n1]
          exact sm b o n1 n2 eb
        · rw [upd_ne (Ne.symm nde)]
          exact hec
        · rw [upd_same, dm_put, e3]
          unfold lputStep
          rw [hv]
          rfl
    · obtain ⟨y4, rfl, sm, hec, hdc⟩ := pv
      have hl : (more.map (·.1)).take (dm more).length = more.map (·.1) := List.take_of_length_le (by rw [dm_len, List.length_map]; exact Nat.le_refl _)
      rw [hl] at hdc
      refine ⟨hec, q _ (fun b o nb eb => ?_) ?_⟩
      · by_cases n2 : b = e
        · rw [n2, upd_same, ← eb, n2, he]
        · rw [upd_ne n2]
          exact sm b o nb n2 eb
      · rw [upd_ne nde]
        exact hdc
end
end TH
end
section
set_option Elab.async false
set_option linter.all false
set_option maxRecDepth 100000
set_option maxHeartbeats 4000000
namespace TH
open PySem PySem.Spec PyProof.Rows L2
theorem lput_count (nm more : PL) (lift by_ : Int) : (lput nm more lift by_).length ≤ nm.length + more.length := by
  have h := lput_len more lift by_ (more.map (·.1)) nm
  rw [List.length_map] at h
  exact h
theorem lring_count (nm : PL) : ∀ n, (lring nm n).length ≤ 2 ^ n * nm.length
  | 0 => by show nm.length ≤ _; omega
  | n + 1 => by
    have ih := lring_count nm n
    have h1 := lput_count [] (lring nm n) 2 (-1)
    have h2 := lput_count (lput [] (lring nm n) 2 (-1)) (lring nm n) (-2) (-1)
    show (lput (lput [] (lring nm n) 2 (-1)) (lring nm n) (-2) (-1)).length ≤ _
    rw [Nat.pow_succ, Nat.mul_comm (2 ^ n) 2, Nat.mul_assoc]
    rw [List.length_nil] at h1
    omega
section
variable {P : Program} {w : World} {K : PySem.W.Frag} {mg : Str → Option Value} {base : Heap}
/-! ### _law_twisted -/
abbrev sTwisted : Stmt := topS 34
theorem scTwisted : FnScope ["_law_level", "_law_upright", "_law_way", "_law_after", "_law_stood"] ["_law_level", "_law_upright", "_law_way"] (defScope sTwisted) := ⟨rfl, rfl, rfl, by decide +kernel, rfl, by decide +kernel, by decide +kernel⟩
def twA (lv : PL) (way : Int) : PL := lput [] lv way 1
def twS (lv up : PL) (way : Int) : PL := lput (lput [] lv (-way) 1) up (-3 * way) (-1)
def spTwisted : Sp := fun vs H Q _ => ∃ (d e : Addr) (lv up : PL) (way : Int), vs = [.ref d, .ref e, .int way] ∧ H d = some (.dK (dm lv)) ∧ H e = some (.dK (dm up)) ∧ lv.length ≤ 4000 ∧ up.length ≤ 4000 ∧
  ∀ t p1 p2 H', Same H H' → H p1 = none → H p2 = none → p1 ≠ p2 → H' t = some (.tup [.ref p1, .ref p2]) → H' p1 = some (.dK (dm (twA lv way))) → H' p2 = some (.dK (dm (twS lv up way))) → Q (.ref t) H'
theorem ok_twisted {f : Addr} {fd : FuncData} {k : Nat} (F : Fun K "_law_twisted" "_law_twisted" sTwisted f fd) (G : Cal P w K mg base k "_law_put" ["_law_numbers", "_law_more", "_law_lift", "_law_by"] spPut) : FnOk P w K mg base CX0 (k + 1) f fd ["_law_level", "_law_upright", "_law_way"] spTwisted := by
  refine F.ok scTwisted (fun vs H Q E h => ?_) (fun cdv A outer s H vs Q E hr h => ?_)
  · obtain ⟨d, e, lv, up, way, rfl, _⟩ := h
    rfl
  · obtain ⟨d, e, lv, up, way, rfl, hd, he, l1, l2, q⟩ := h
    refine ⟨_, pss_cons (ps_set (i := 3) scTwisted.nd rfl (.inl rfl) pe_dnewK)
      (pss_cons (ps_set (i := 4) scTwisted.nd rfl (.inl rfl) pe_dnewK)
      (pss_cons (ps_expr (pe_cal G hr (by rfl) (pa_cons (pv 3) (pa_cons (pv 0) (pa_cons (pv 2) (pa_cons pe_int pa_nil))))))
      (pss_cons (ps_expr (pe_cal G hr (by rfl) (pa_cons (pv 4) (pa_cons (pv 0) (pa_cons (pe_un un_neg (pv 2)) (pa_cons pe_int pa_nil))))))
      (pss_cons (ps_expr (pe_cal G hr (by rfl) (pa_cons (pv 4) (pa_cons (pv 1) (pa_cons (pe_op op_mul (pe_un un_neg pe_int) (pv 2)) (pa_cons (pe_un un_neg pe_int) pa_nil))))))
      (pss_one (ps_ret (pe_tup (pa_cons (pv 3) (pa_cons (pv 4) pa_nil))))))))), ?_⟩
    intro p1 n1
    intro p2 n2
    have n21 : p2 ≠ p1 := fun z => by rw [z, upd_same] at n2; cases n2
    have s1 : Same H (upd H p1 (.dK [])) := Same.new n1
    have n20 : H p2 = none := s1.free n2
    have s2 : Same H (upd (upd H p1 (.dK [])) p2 (.dK [])) := Same.over s1 n20
    have hp1 : (upd (upd H p1 (.dK [])) p2 (.dK [])) p1 = some (.dK (dm [])) := by rw [upd_ne (Ne.symm n21), upd_same]; rfl
    have hp2 : (upd (upd H p1 (.dK [])) p2 (.dK [])) p2 = some (.dK (dm [])) := upd_same
    have d1 : p1 ≠ d := fun z => by rw [z, hd] at n1; cases n1
    have d2 : p2 ≠ d := fun z => by rw [z, hd] at n20; cases n20
    have e1 : p1 ≠ e := fun z => by rw [z, he] at n1; cases n1
    have e2 : p2 ≠ e := fun z => by rw [z, he] at n20; cases n20
    refine ⟨.ref p1, rfl, .ref d, rfl, .int way, rfl, p1, d, [], lv, way, 1, rfl, d1, hp1, s2 _ _ hd, Nat.zero_le _, by omega, by decide, by decide, fun H3 sx3 h31 => ?_⟩
    refine ⟨.ref p2, rfl, .ref d, rfl, .int way, rfl, way, rfl, p2, d, [], lv, -way, 1, rfl, d2, sx3 _ _ n21 hp2, sx3 _ _ (Ne.symm d1) (s2 _ _ hd), Nat.zero_le _, by omega, by decide, by decide, fun H4 sx4 h42 => ?_⟩
    have hz := lput_count [] lv (-way) 1
    rw [List.length_nil] at hz
    refine ⟨.ref p2, rfl, .ref e, rfl, 3, rfl, .int way, rfl, -3, way, rfl, rfl, .inl ⟨by decide, by decide⟩, 1, rfl, p2, e, lput [] lv (-way) 1, up, -3 * way, -1, rfl, e2, h42, sx4 _ _ (Ne.symm e2) (sx3 _ _ (Ne.symm e1) (s2 _ _ he)), by omega, by omega, by decide, by decide, fun H5 sx5 h52 => ?_⟩
    have h51 : H5 p1 = some (.dK (dm (twA lv way))) := sx5 _ _ (Ne.symm n21) (sx4 _ _ (Ne.symm n21) h31)
    refine ⟨.ref p1, rfl, .ref p2, rfl, by show 2 ≤ sizeLine; decide, fun t nt => ?_⟩
    have s6 : Same H5 (upd H5 t (.tup [.ref p1, .ref p2])) := Same.new nt
    refine q t p1 p2 _ (fun b o eb => ?_) n1 n20 (Ne.symm n21) upd_same (s6 _ _ h51) (s6 _ _ h52)
    have b1 : b ≠ p1 := ne_of_none eb n1
    have b2 : b ≠ p2 := ne_of_none eb n20
    exact s6 _ _ (sx5 _ _ b2 (sx4 _ _ b2 (sx3 _ _ b1 (s2 _ _ eb))))
/-! ### _law_ringed -/
abbrev sRinged : Stmt := topS 35
theorem scRinged : FnScope ["_law_numbers", "_law_rings", "_law_ring", "_law_more"] ["_law_numbers", "_law_rings"] (defScope sRinged) := ⟨rfl, rfl, rfl, by decide +kernel, rfl, by decide +kernel, by decide +kernel⟩
def spRinged : Sp := fun vs H Q _ => ∃ (d : Addr) (nm : PL) (n : Nat), vs = [.ref d, .int (n : Nat)] ∧ H d = some (.dK (dm nm)) ∧ nm.length ≤ 100 ∧ n ≤ 5 ∧
  ∀ p H', Same H H' → (n ≠ 0 → H p = none) → H' p = some (.dK (dm (lring nm n))) → Q (.ref p) H'
theorem ok_ringed {f : Addr} {fd : FuncData} {k : Nat} (F : Fun K "_law_ringed" "_law_ringed" sRinged f fd) (G : Cal P w K mg base k "_law_put" ["_law_numbers", "_law_more", "_law_lift", "_law_by"] spPut) (mr : mg "range" = none) : FnOk P w K mg base CX0 (k + 1) f fd ["_law_numbers", "_law_rings"] spRinged := by
  refine F.ok scRinged (fun vs H Q E h => ?_) (fun cdv A outer s H vs Q E hr h => ?_)
  · obtain ⟨d, nm, n, rfl, _⟩ := h
    rfl
  · obtain ⟨d, nm, n, rfl, hd, l1, hn, q⟩ := h
    refine ⟨_, pss_cons (ps_for PassesOwn.never rfl (pi_range1 rfl mr (pa_cons (pv 1) pa_nil)) (pg_name (i := 2) scRinged.nd rfl (.inl rfl))
        (pss_cons (ps_set (i := 3) scRinged.nd rfl (.inl rfl) pe_dnewK)
        (pss_cons (ps_expr (pe_cal G hr (by rfl) (pa_cons (pv 3) (pa_cons (pv 0) (pa_cons pe_int (pa_cons (pe_un un_neg pe_int) pa_nil))))))
        (pss_cons (ps_expr (pe_cal G hr (by rfl) (pa_cons (pv 3) (pa_cons (pv 0) (pa_cons (pe_un un_neg pe_int) (pa_cons (pe_un un_neg pe_int) pa_nil))))))
        (pss_one (ps_set (i := 0) scRinged.nd rfl (.inl rfl) (pv 3)))))))
      (pss_one (ps_ret (pv 0))), ?_⟩
    have hcnt : ∀ i, i ≤ n → (lring nm i).length ≤ 3200 := fun i hi => by
      have h1 := lring_count nm i
      have h2 : 2 ^ i ≤ 2 ^ 5 := Nat.pow_le_pow_right (by decide) (by omega)
      have h3 := Nat.mul_le_mul h2 l1
      omega
    refine ⟨.int n, rfl, n, rfl, by omega, by omega, for_range (n := n) (fun i σ Hc => ∃ p y2 y3, σ = [some (.ref p), some (.int n), y2, y3] ∧ Same H Hc ∧ Hc p = some (.dK (dm (lring nm i))) ∧ (i ≠ 0 → H p = none)) ⟨d, none, none, rfl, Same.refl H, hd, fun z => absurd rfl z⟩ (fun i σ Hc hi pv => ?_) (fun σ Hc pv => ?_)⟩
    · obtain ⟨p, y2, y3, rfl, sm, hp, _⟩ := pv
      have hl := hcnt i (by omega)
      intro p3 n3
      have n30 : H p3 = none := sm.free n3
      have s3 : Same Hc (upd Hc p3 (.dK [])) := Same.new n3
      have n3p : p3 ≠ p := fun z => by rw [z, hp] at n3; cases n3
      refine ⟨.ref p3, rfl, .ref p, rfl, 1, rfl, p3, p, [], lring nm i, 2, -1, rfl, n3p, upd_same, s3 _ _ hp, Nat.zero_le _, by omega, by decide, by decide, fun H4 sx4 h4 => ?_⟩
      have hc := lput_count [] (lring nm i) 2 (-1)
      rw [List.length_nil] at hc
      refine ⟨.ref p3, rfl, .ref p, rfl, 2, rfl, 1, rfl, p3, p, _, lring nm i, -2, -1, rfl, n3p, h4, sx4 _ _ (Ne.symm n3p) (s3 _ _ hp), by omega, by omega, by decide, by decide, fun H5 sx5 h5 => ?_⟩
      refine ⟨.ref p3, rfl, p3, _, _, rfl, fun b o e => ?_, h5, fun _ => n30⟩
      have nb : b ≠ p3 := ne_of_none e n30
      exact sx5 _ _ nb (sx4 _ _ nb (s3 _ _ (sm _ _ e)))
    · obtain ⟨p, y2, y3, rfl, sm, hp, nn⟩ := pv
      exact ⟨.ref p, rfl, q p Hc sm nn hp⟩
/-! ### _law_polynomial -/
abbrev sPoly : Stmt := topS 36
theorem scPoly : FnScope ["_law_numbers", "_law_power"] ["_law_numbers"] (defScope sPoly) := ⟨rfl, rfl, rfl, by decide +kernel, rfl, by decide +kernel, by decide +kernel⟩
def spPoly (K : PySem.W.Frag) : Sp := fun vs H Q _ => ∃ (d : Addr) (nm : PL), vs = [.ref d] ∧ H d = some (.dK (dm nm)) ∧ nm.length ≤ 100000 ∧ ∀ v H', Same H H' → Pl K H' v (lpoly nm) → Q v H'
theorem ok_poly {f : Addr} {fd : FuncData} {k : Nat} (F : Fun K "_law_polynomial" "_law_polynomial" sPoly f fd) (mt : mg "tuple" = none) (ms : mg "sorted" = none) : FnOk P w K mg base CX0 (k + 1) f fd ["_law_numbers"] (spPoly K) := by
  refine F.ok scPoly (fun vs H Q E h => ?_) (fun cdv A outer s H vs Q E hr h => ?_)
  · obtain ⟨d, nm, rfl, _⟩ := h
    rfl
  · obtain ⟨d, nm, rfl, hd, hln, q⟩ := h
    have hu := hu_of hr
    refine ⟨_, pss_one (ps_ret (pe_callTy call_tuple_of (by rfl) mt (by decide +kernel) (pa_cons
        (pe_lc (own := [("_law_power", 1)]) (g := gName 1) rfl scPoly.nd (pi_list (pe_callB (cr_sortK rfl) (by rfl) ms (by decide +kernel) (pa_cons (pv 0) pa_nil)))
          (blkOk_by (own := [("_law_power", 1)]) (N := ["_law_numbers", "_law_power"]) (sc := defScope sPoly) (by decide +kernel))
          (fun _ _ _ _ _ => pg_name (i := 1) scPoly.nd rfl (Or.inl rfl))
          (fun _ _ _ _ _ => pts_one (pt_cmpR op_ne (pe_dget hu (pv 0) (pv 1) (fun _ _ => rfl)) pe_int (nomark _)))
          (fun _ _ _ _ _ => pe_tup (pa_cons (pv 1) (pa_cons (pe_dget hu (pv 0) (pv 1) (fun _ _ => rfl)) pa_nil)))) pa_nil))), ?_⟩
    have hks := dm_keys nm
    refine ⟨.ref d, rfl, d, _, _, rfl, .inl hd, hks, fun ys l hperm hsort nl => ?_⟩
    rw [sortI_unique hperm hsort]
    let ks := sortI (nm.map (·.1))
    let H1 := upd H l (.lst (ks.map V.int))
    have s2 : Same H H1 := Same.new nl
    have hd1 : H1 d = some (.dK (dm nm)) := s2 _ _ hd
    refine ⟨l, rfl, ⟨_, .inl (.inl upd_same)⟩, fun D nD => lc_list (xs := ks.map V.int) (fun i Hx => Same H1 Hx ∧ ∃ acc, Hx D = some (.lst acc) ∧ Prs K Hx acc (gacc nm ks i)) ⟨Same.new nD, [], upd_same, .nil⟩ (fun i Hx hi p => ?_) (fun i x Hx hx p => ?_) (fun Hx p => ?_)⟩
    · exact .inl (.inl (p.1 _ _ upd_same))
    · obtain ⟨sx, acc, hacc, hpr⟩ := p
      rw [List.getElem?_map] at hx
      obtain ⟨k, hk, rfl⟩ := Option.map_eq_some_iff.mp hx
      have hkm : k ∈ nm.map (·.1) := (sortI_perm _).mem_iff.mp (List.mem_of_getElem? hk)
      obtain ⟨v, hv⟩ := dv_mem hkm
      have hval : valV (dm nm) (Sum.inl k) = some (.int v) := by rw [dm_val, hv]; rfl
      have hdx : Hx d = some (.dK (dm nm)) := sx _ _ hd1
      refine ⟨rfl, .ref d, rfl, .int k, rfl, d, .int v, rfl, .inl ⟨_, Sum.inl k, .inl hdx, rfl, hval.symm⟩, rfl, _, rfl, ite2 (fun e => ?_) (fun e => ?_)⟩
      · have hv0 : v ≠ 0 := fun z => by
          rw [z, decide_eq_true rfl] at e
          exact absurd e (by decide)
        refine ⟨.int k, rfl, .ref d, rfl, .int k, rfl, d, .int v, rfl, .inl ⟨_, Sum.inl k, .inl hdx, rfl, hval.symm⟩, by show 2 ≤ sizeLine; decide, fun t nt => ⟨acc, ?_, ?_, ?_, _, upd_same, ?_⟩⟩
        · rw [upd_ne (ne_of_none hacc nt)]
          exact hacc
        · have z := gacc_len nm ks i
          rw [← Paired.len hpr] at z
          have z3 : ks.length = nm.length := by
            show (sortI _).length = _
            rw [(sortI_perm _).length_eq, List.length_map]
          exact big5 (by omega)
        · exact Same.over (Same.over sx (sx.free nt)) nD
        · rw [gacc_succ hk hv, if_pos hv0]
          have hD2 : upd Hx t (.tup [.int k, .int v]) D = some (.lst acc) := by
            rw [upd_ne (ne_of_none hacc nt)]
            exact hacc
          have tk2 := TK.put (o := .lst (acc ++ [.ref t])) hD2 (fun _ z => nomatch z)
          exact Paired.app (hpr.tk (TK.trans (TK.new nt) tk2)) (.cons ⟨t, rfl, Tp.of (tk2 _ _ upd_same)⟩ .nil)
      · have hv0 : v = 0 := by
          rcases Decidable.em (v = 0) with z | z
          · exact z
          · exfalso
            refine e ?_
            rw [decide_eq_false (fun y => z (V.int.inj y))]
            rfl
        rw [gacc_succ hk hv, if_neg (fun z => z hv0)]
        exact ⟨sx, acc, hacc, hpr⟩
    · obtain ⟨sx, acc, hacc, hpr⟩ := p
      rw [List.length_map] at hpr
      refine ⟨D, acc, rfl, .inl ⟨.inl (.inl hacc), fun r nr => q _ _ (Same.over (s2.trans sx) (s2.free (sx.free nr))) ⟨r, acc, rfl, Tp.of upd_same, ?_⟩⟩⟩
      have e1 : gacc nm ks ks.length = lpoly nm := by
        unfold gacc lpoly
        rw [List.take_length]
      rw [← e1]
      exact hpr.tk (TK.new nr)
end
end TH
end
section
set_option Elab.async false
set_option linter.all false
set_option maxRecDepth 100000
set_option maxHeartbeats 4000000
set_option pp.maxSteps 600
namespace TH
open PySem PySem.Spec PyProof.Rows L2
def rot (t : Nat) (c : List Int) : List Int := c.drop t ++ c.take t
def upA (a : List Int) (k : Nat) : Int := if k = 0 then a.getD 0 0 else a.getD (2 * k + 1) 0
def loA (a : List Int) (k : Nat) : Int := if k = 0 then a.getD 1 0 else a.getD (2 * k) 0
def xing (a : List Int) (T : List Int) (k : Nat) : List Int :=
  if 0 < T.getD k 0 then rot 1 [upA a k, loA a k, loA a (k + 1), upA a (k + 1)] else [upA a k, loA a k, loA a (k + 1), upA a (k + 1)]
def Turned (a T : List Int) (k : Nat) (c : List Int) : Prop := c = xing a T k ∨ c = rot 2 (xing a T k)
/-- the crossings in a drawn order: crossing j is that of twist ts[j] -/
def RowsOk (a T : List Int) (n : Nat) (cs : List (List Int)) : Prop := ∃ ts : List Nat, ts.Perm (List.range n) ∧ Paired (Turned a T) ts cs
theorem paired_take {α β : Type} {R : α → β → Prop} : ∀ {xs : List α} {ys : List β} (i : Nat), Paired R xs ys → Paired R (xs.take i) (ys.take i)
  | _, _, 0, _ => .nil
  | _, _, i + 1, .nil => .nil
  | _, _, i + 1, .cons h t => .cons h (paired_take i t)
theorem paired_drop {α β : Type} {R : α → β → Prop} : ∀ {xs : List α} {ys : List β} (i : Nat), Paired R xs ys → Paired R (xs.drop i) (ys.drop i)
  | _, _, 0, h => h
  | _, _, i + 1, .nil => .nil
  | _, _, i + 1, .cons h t => paired_drop i t
theorem RowsOk.step {a T : List Int} {n i : Nat} {cs : List (List Int)} {c : List Int} (h : RowsOk a T n cs) (hc : Turned a T n c) : RowsOk a T (n + 1) (cs.take i ++ [c] ++ cs.drop i) := by
  obtain ⟨ts, hp, hr⟩ := h
  refine ⟨ts.take i ++ [n] ++ ts.drop i, ?_, Paired.app (Paired.app (paired_take i hr) (.cons hc .nil)) (paired_drop i hr)⟩
  rw [List.range_succ]
  have e : (ts.take i ++ [n] ++ ts.drop i).Perm ((ts.take i ++ ts.drop i) ++ [n]) := by
    rw [List.append_assoc, List.append_assoc]
    exact List.Perm.append_left _ List.perm_append_comm
  refine e.trans ?_
  rw [List.take_append_drop]
  exact hp.append_right _
theorem RowsOk.len {a T : List Int} {n : Nat} {cs : List (List Int)} (h : RowsOk a T n cs) : cs.length = n := by
  obtain ⟨ts, hp, hr⟩ := h
  rw [← Paired.len hr, hp.length_eq, List.length_range]
/-! ### slices and sums of tuples -/
theorem cutV_whole {xs : List V} {lo hi : Option Int} (h : HT.sIx xs.length 0 lo = 0 ∧ HT.sIx xs.length xs.length hi = xs.length) : cutV xs lo hi = xs := by
  unfold cutV
  rw [h.1, h.2, List.drop_zero, Nat.sub_zero, List.take_length]
theorem slA_run {K : PySem.W.Frag} {H : Hp} {a : Addr} {xs : List V} {lo hi : Option Int} {Q : VK} (h : Tp K H a xs) (q : ∀ b H', Same H H' → Tp K H' b (cutV xs lo hi) → Q (.ref b) H') : rSlA K (.ref a) lo hi H Q :=
  ⟨a, xs, rfl, h.sq, fun e => q a H (Same.refl H) (by rw [cutV_whole e]; exact h), fun _ p np => q p _ (Same.new np) (Tp.of upd_same)⟩
theorem catA_run {K : PySem.W.Frag} {H : Hp} {a b : Addr} {xs ys : List V} {Q : VK} (h : Tp K H a xs) (h2 : Tp K H b ys) (hl : xs.length + ys.length ≤ sizeLine) (q : ∀ c H', Same H H' → Tp K H' c (xs ++ ys) → Q (.ref c) H') : rCatA K (.ref a) (.ref b) H Q := by
  refine ⟨a, b, xs, ys, rfl, rfl, h.sq, h2.sq, hl, fun e => ?_, fun _ e => ?_, fun _ _ p np => q p _ (Same.new np) (Tp.of upd_same)⟩
  · refine q b H (Same.refl H) ?_
    rw [e]
    exact h2
  · refine q a H (Same.refl H) ?_
    rw [e, List.append_nil]
    exact h
theorem cut_lo {xs : List V} {t : Nat} (h : t ≤ xs.length) : cutV xs (some (t : Int)) none = xs.drop t := by
  unfold cutV
  rw [HT.sIx_nat, HT.sIx_none, Nat.min_eq_left h]
  exact List.take_of_length_le (by rw [List.length_drop]; exact Nat.le_refl _)
theorem cut_hi {xs : List V} {t : Nat} (h : t ≤ xs.length) : cutV xs none (some (t : Int)) = xs.take t := by
  unfold cutV
  rw [HT.sIx_nat, HT.sIx_none, Nat.min_eq_left h]
  rfl
theorem sqX {K : PySem.W.Frag} {l a : Addr} {H H' : Hp} {xs : List V} (h : SqL K H a xs) (s : SameX l H H') (n : a ≠ l) : SqL K H' a xs := by
  rcases h with (h | ⟨o, h⟩) | h
  · exact .inl (.inl (s _ _ n h))
  · exact .inl (.inr ⟨o, s _ _ n h⟩)
  · exact .inr h
theorem RowAt.tk {l : Addr} {H H' : Hp} {n : Nat} (h : RowAt H l n) (s : SameX l H H') : TK H H' := let ⟨_, e⟩ := h; s.tk e fun _ z => nomatch z
theorem i_at {c : List Int} {i : Nat} {j : Int} (h : i < c.length) (e : j = (i : Nat)) : atI (c.map V.int) j = some (.int (c.getD i 0)) := by rw [e]; exact c_at h
theorem cat_fit {xs : List V} (h : xs.length ≤ 100) (a b c d : Option Int) : (cutV xs a b).length + (cutV xs c d).length ≤ sizeLine := by
  have h1 := cutV_length xs a b
  have h2 := cutV_length xs c d
  exact Nat.le_of_lt (big5 (by omega))
theorem rot_cut {c : List Int} {t : Nat} {j : Int} (h : t ≤ c.length) (e : j = (t : Nat)) : cutV (c.map V.int) (some j) none ++ cutV (c.map V.int) none (some j) = (rot t c).map V.int := by
  subst e
  rw [cut_lo (by rw [List.length_map]; exact h), cut_hi (by rw [List.length_map]; exact h)]
  unfold rot
  rw [List.map_append, List.map_drop, List.map_take]
theorem xing_len (a T : List Int) (k : Nat) : (xing a T k).length = 4 := by
  unfold xing
  split <;> rfl
theorem turned_of {a T : List Int} {k tn : Nat} (h : tn = 0 ∨ tn = 2) : Turned a T k (rot tn (xing a T k)) := by
  rcases h with rfl | rfl
  · left
    unfold rot
    rw [List.drop_zero, List.take_zero, List.append_nil]
  · exact .inr rfl
theorem rot_len (t : Nat) (c : List Int) : (rot t c).length = c.length := by
  unfold rot
  rw [List.length_append, List.length_drop, List.length_take]
  omega
section
variable {P : Program} {w : World} {K : PySem.W.Frag} {mg : Str → Option Value} {base : Heap}
/-! ### _law_row -/
abbrev sRow : Stmt := topS 37
theorem scRow : FnScope ["_law_twists", "_law_row_here", "_law_arcs_here", "_law_crossings", "_law_upper", "_law_lower", "_law_k", "_law_way", "_law_crossing", "_law_turn"] ["_law_twists", "_law_row_here"] (defScope sRow) := ⟨rfl, rfl, rfl, by decide +kernel, rfl, by decide +kernel, by decide +kernel⟩
def spRow (K : PySem.W.Frag) : Sp := fun vs H Q _ => ∃ (at_ l : Addr) (T : List Int) (n : Nat), vs = [.ref at_, .ref l] ∧ at_ ≠ l ∧ SqL K H at_ (T.map V.int) ∧ T.length ≤ 40 ∧ RowAt H l n ∧ n ≤ 80000 ∧
  ∀ t lc te as cs p o lp H', SameX l H H' → RowAt H' l (n + 3 + 2 * T.length) → (p = 101 ∨ p = 10007 ∨ p = 999999937) → 0 ≤ o → o < p → 1 ≤ lp → lp < p →
    H' t = some (.tup [.ref lc, .ref te]) → H' lc = some (.lst (as.map V.ref)) → Paired (fun a c => Tp K H' a (c.map V.int)) as cs → RowsOk (arcsOf p o lp (2 * T.length + 2)) T T.length cs →
    Tp K H' te ([(arcsOf p o lp (2 * T.length + 2)).getD 0 0, (arcsOf p o lp (2 * T.length + 2)).getD 1 0, loA (arcsOf p o lp (2 * T.length + 2)) T.length, upA (arcsOf p o lp (2 * T.length + 2)) T.length].map V.int) → Q (.ref t) H'
theorem ok_row {f : Addr} {fd : FuncData} {k : Nat} (F : Fun K "_law_row" "_law_row" sRow f fd) (G : Cal P w K mg base k "_law_take" ["_law_row_here", "_law_base"] spTake) (GA : Cal P w K mg base k "_law_arcs" ["_law_row_here", "_law_many"] spArcs) (mn : mg "len" = none) (me : mg "enumerate" = none) :
    FnOk P w K mg base CX0 (k + 1) f fd ["_law_twists", "_law_row_here"] (spRow K) := by
  refine F.ok scRow (fun vs H Q E h => ?_) (fun cdv A outer s H vs Q E hr h => ?_)
  · obtain ⟨at_, l, T, n, rfl, _⟩ := h
    rfl
  · obtain ⟨at_, l, T, n, rfl, nal, hT, hT4, hl, hn, q⟩ := h
    refine ⟨_, pss_cons (ps_set (i := 2) scRow.nd rfl (.inl rfl) (pe_cal GA hr (by rfl) (pa_cons (pv 1) (pa_cons (pe_op op_add (pe_op op_mul pe_int (pe_callB call_len (by rfl) mn PySem.boot_len (pa_cons (pv 0) pa_nil))) pe_int) pa_nil))))
      (pss_cons (ps_set (i := 3) scRow.nd rfl (.inl rfl) (pe_lst pa_nil))
      (pss_cons (ps_par (i := 4) (j := 5) rfl scRow.nd rfl rfl (by decide) rfl rfl (pa_cons (pe_ix ix_list (pv 2) pe_int (fun _ _ => rfl)) (pa_cons (pe_ix ix_list (pv 2) pe_int (fun _ _ => rfl)) pa_nil)) rfl)
      (pss_cons (ps_for PassesOwn.never rfl (pi_enum (by rfl) me (pa_cons (pv 0) pa_nil))
          (pg_tup rfl (pgs_cons (pg_name (i := 6) scRow.nd rfl (.inl rfl)) (pgs_cons (pg_name (i := 7) scRow.nd rfl (.inl rfl)) pgs_nil)))
        (pss_cons (ps_set (i := 8) scRow.nd rfl (.inl rfl) (pe_tup (pa_cons (pv 4) (pa_cons (pv 5) (pa_cons (pe_ix ix_list (pv 2) (pe_op op_add (pe_op op_mul pe_int (pv 6)) pe_int) (fun _ _ => rfl)) (pa_cons (pe_ix ix_list (pv 2) (pe_op op_add (pe_op op_mul pe_int (pv 6)) pe_int) (fun _ _ => rfl)) pa_nil))))))
        (pss_cons (ps_if (pt_cmpR op_gt (pv 7) pe_int (nomark _)) (pss_one (ps_set (i := 8) scRow.nd rfl (.inl rfl) (pe_op op_catA (pe_slice sl_tupA (pv 8) (po_some pe_int) po_none) (pe_slice sl_tupA (pv 8) po_none (po_some pe_int))))) pss_nil)
        (pss_cons (ps_set (i := 9) scRow.nd rfl (.inl rfl) (pe_op op_mul pe_int (pe_cal G hr (by rfl) (pa_cons (pv 1) (pa_cons pe_int pa_nil)))))
        (pss_cons (ps_expr (pe_bm PySem.F.plainAttrs_list PySem.F.slot_list_insert PySem.F.type_list_insert mt_insert (pv 3) (pa_cons (pe_cal G hr (by rfl) (pa_cons (pv 1) (pa_cons (pe_op op_add (pe_callB call_len (by rfl) mn PySem.boot_len (pa_cons (pv 3) pa_nil)) pe_int) pa_nil)))
            (pa_cons (pe_op op_catA (pe_slice sl_tupA (pv 8) (po_some (pv 9)) po_none) (pe_slice sl_tupA (pv 8) po_none (po_some (pv 9)))) pa_nil))))
        (pss_one (ps_par (i := 5) (j := 4) rfl scRow.nd rfl rfl (by decide) rfl rfl (pa_cons (pe_ix ix_list (pv 2) (pe_op op_add (pe_op op_mul pe_int (pv 6)) pe_int) (fun _ _ => rfl)) (pa_cons (pe_ix ix_list (pv 2) (pe_op op_add (pe_op op_mul pe_int (pv 6)) pe_int) (fun _ _ => rfl)) pa_nil)) rfl)))))))
      (pss_one (ps_ret (pe_tup (pa_cons (pv 3) (pa_cons (pe_tup (pa_cons (pe_ix ix_list (pv 2) pe_int (fun _ _ => rfl)) (pa_cons (pe_ix ix_list (pv 2) pe_int (fun _ _ => rfl)) (pa_cons (pv 5) (pa_cons (pv 4) pa_nil))))) pa_nil)))))))), ?_⟩
    refine ⟨.ref l, rfl, .ref at_, rfl, .ref at_, T.length, rfl, .inl ⟨_, hT, by rw [List.length_map]⟩, 2, (T.length : Int), rfl, rfl, .inl ⟨by decide, by decide⟩, _, 2, rfl, rfl, ?_⟩
    refine ⟨l, n, 2 * T.length + 2, rfl, hl, by omega, by omega, fun ar H1 p o lp sx1 nar r1 hp o0 o1 l0 l1 har => ?_⟩
    have la : (arcsOf p o lp (2 * T.length + 2)).length = 2 * T.length + 2 := by unfold arcsOf; rw [List.length_map, List.length_range]
    have q := fun t lc te as cs => q t lc te as cs p o lp
    generalize arcsOf p o lp (2 * T.length + 2) = a at har la q
    refine ⟨Nat.zero_le _, fun lc nlc => ?_⟩
    have nll : l ≠ ar := fun z => by obtain ⟨s0, e0⟩ := hl; rw [z, nar] at e0; cases e0
    have nlcl : lc ≠ l := fun z => by obtain ⟨s0, e0⟩ := r1; rw [z, e0] at nlc; cases nlc
    have nlca : lc ≠ ar := fun z => by rw [z, har] at nlc; cases nlc
    have nlc0 : H lc = none := sx1.free nlc nlcl
    have s2 : Same H1 (upd H1 lc (.lst [])) := Same.new nlc
    have har2 : (upd H1 lc (.lst [])) ar = some (.lst (a.map V.int)) := s2 _ _ har
    have sx2 : SameX l H (upd H1 lc (.lst [])) := sx1.trans (SameX.of s2)
    refine ⟨.ref ar, rfl, ar, _, 0, _, rfl, rfl, .inl (.inl har2), i_at (i := 0) (by omega) rfl, .ref ar, rfl, ar, _, 1, _, rfl, rfl, .inl (.inl har2), i_at (i := 1) (by omega) rfl, _, _, rfl, ?_⟩
    refine ⟨.ref at_, rfl, at_, _, rfl, sqX hT sx2 nal, ?_⟩
    refine ⟨fun i m σ Hc => ∃ y6 y7 y8 y9 as cs, σ = [some (.ref at_), some (.ref l), some (.ref ar), some (.ref lc), some (.int (upA a i)), some (.int (loA a i)), y6, y7, y8, y9] ∧ i + m = T.length ∧ SameX l H Hc ∧ RowAt Hc l (n + 3 + 2 * i) ∧
        Hc ar = some (.lst (a.map V.int)) ∧ Hc lc = some (.lst (as.map V.ref)) ∧ Paired (fun a c => Tp K Hc a (c.map V.int)) as cs ∧ RowsOk a T i cs,
      ⟨T.length, none, none, none, none, [], [], rfl, by omega, sx2, r1.same s2, har2, upd_same, .nil, ⟨[], List.Perm.refl _, .nil⟩⟩, fun i m σ Hc pv => ?_⟩
    obtain ⟨y6, y7, y8, y9, as, cs, rfl, em, sm, rw_, hac, hlc, hcs, hro⟩ := pv
    have hTc := sqX hT sm nal
    by_cases hi : i < T.length
    · have g1 : (T.map V.int)[i]? = some (.int (T.getD i 0)) := by
        rw [List.getElem?_map, List.getElem?_eq_getElem hi, List.getD_eq_getElem?_getD, List.getElem?_eq_getElem hi]
        rfl
      refine .inr ⟨⟨_, _, hTc, g1⟩, fun σ' H' => ∃ y6 y7 y8 y9 as cs, σ' = [some (.ref at_), some (.ref l), some (.ref ar), some (.ref lc), some (.int (upA a (i + 1))), some (.int (loA a (i + 1))), y6, y7, y8, y9] ∧ SameX l H H' ∧ RowAt H' l (n + 3 + 2 * (i + 1)) ∧
        H' ar = some (.lst (a.map V.int)) ∧ H' lc = some (.lst (as.map V.ref)) ∧ Paired (fun a c => Tp K H' a (c.map V.int)) as cs ∧ RowsOk a T (i + 1) cs, fun σ' H' hN => ?_, fun x H' hy => ?_⟩
      · obtain ⟨z6, z7, z8, z9, as', cs', e, r⟩ := hN
        exact ⟨m - 1, by omega, z6, z7, z8, z9, as', cs', e, by omega, r⟩
      · obtain ⟨Tt, x0, rfl, nT, rfl, fx⟩ := hy
        have ex : x0 = .int (T.getD i 0) := Option.some.inj ((fx _ hTc).symm.trans g1)
        subst ex
        have sT : Same Hc (upd Hc Tt (.tup [.int (i : Nat), .int (T.getD i 0)])) := Same.new nT
        have hacT := sT _ _ hac
        refine ⟨Tt, _, rfl, .inl (.inl upd_same), rfl, _, _, rfl, _, _, rfl, rfl, ?_⟩
        generalize upd Hc Tt (.tup [.int (i : Nat), .int (T.getD i 0)]) = HT at sT hacT
        have eu : upA a (i + 1) = a.getD (2 * i + 3) 0 := by unfold upA; rw [if_neg (by omega)]; rfl
        have el : loA a (i + 1) = a.getD (2 * i + 2) 0 := by unfold loA; rw [if_neg (by omega)]; rfl
        have g2 : atI (a.map V.int) (2 * (i : Int) + 2) = some (.int (loA a (i + 1))) := by rw [el]; exact i_at (by omega) (by omega)
        have g3 : atI (a.map V.int) (2 * (i : Int) + 3) = some (.int (upA a (i + 1))) := by rw [eu]; exact i_at (by omega) (by omega)
        have c2' : CMul 2 (i : Int) := .inl ⟨by decide, by decide⟩
        refine ⟨.int (upA a i), rfl, .int (loA a i), rfl, .ref ar, rfl, .int (i : Nat), rfl, 2, (i : Int), rfl, rfl, c2', _, 2, rfl, rfl, ar, _, _, _, rfl, rfl, .inl (.inl hacT), g2, ?_⟩
        refine ⟨.ref ar, rfl, .int (i : Nat), rfl, 2, (i : Int), rfl, rfl, c2', _, 3, rfl, rfl, ar, _, _, _, rfl, rfl, .inl (.inl hacT), g3, by show 4 ≤ sizeLine; decide, fun c0 nc0 => ?_⟩
        have s0 : Same HT (upd HT c0 (.tup [.int (upA a i), .int (loA a i), .int (loA a (i + 1)), .int (upA a (i + 1))])) := Same.new nc0
        have hc0 : Tp K (upd HT c0 (.tup [.int (upA a i), .int (loA a i), .int (loA a (i + 1)), .int (upA a (i + 1))])) c0 ([upA a i, loA a i, loA a (i + 1), upA a (i + 1)].map V.int) := Tp.of upd_same
        refine ⟨.int (T.getD i 0), rfl, T.getD i 0, 0, rfl, rfl, _, rfl, ite2 (fun e => ?_) (fun e => ?_)⟩
        · have hpos : 0 < T.getD i 0 := of_decide_eq_true e
          refine ⟨.ref c0, rfl, 1, rfl, ?_⟩
          unfold tNoPart
          show rSlA K (.ref c0) (some 1) none _ _
          refine slA_run hc0 fun b1 H3 s3 h3 => ⟨.ref c0, rfl, ?_⟩
          refine ⟨1, rfl, ?_⟩
          refine slA_run (hc0.tk (TK.same s3)) fun b2 H4 s4 h4 => ?_
          refine catA_run (h3.tk (TK.same s4)) h4 (cat_fit (by show 4 ≤ 100; decide) _ _ _ _) fun c H2 s5 hc => ?_
          have s2 : Same Hc H2 := (((sT.trans s0).trans s3).trans s4).trans s5
          have hcx : Tp K H2 c ((xing a T i).map V.int) := by unfold xing; rw [if_pos hpos, ← rot_cut (j := 1) (by show 1 ≤ 4; decide) rfl]; exact hc
          clear hc s5 h4 s4 h3 s3 hc0 s0 sT hacT hpos e
          have sm2 := sm.trans (SameX.of s2)
          refine ⟨.ref l, rfl, l, _, 2, rfl, rw_.same s2, by omega, by decide, by decide, fun v H3 sx3 r3 v0 v1 => ?_⟩
          refine ⟨2, v, rfl, rfl, .inl ⟨by decide, by decide⟩, ?_⟩
          obtain ⟨tn, htn, etn⟩ : ∃ tn : Nat, (tn = 0 ∨ tn = 2) ∧ 2 * v = (tn : Int) := ⟨(2 * v).toNat, by omega, by omega⟩
          show gName 9 (V.int (2 * v)) _ _ _
          rw [etn]
          have k3 : TK Hc H3 := (TK.same s2).trans ((rw_.same s2).tk sx3)
          have sx03 : SameX l Hc H3 := (SameX.of s2).trans sx3
          have hlc3 : H3 lc = some (.lst (as.map V.ref)) := sx03 _ _ nlcl hlc
          have hlen : as.length = cs.length := Paired.len hcs
          have hcsl := hro.len
          refine ⟨.ref lc, rfl, .inl ⟨rfl, _, .inl (.inl hlc3)⟩, .ref l, rfl, .ref lc, rfl, .ref lc, cs.length, rfl, .inl ⟨_, .inl (.inl hlc3), by rw [List.length_map, hlen]⟩, (cs.length : Int), 1, rfl, rfl, ?_⟩
          refine ⟨l, _, _, rfl, r3, by omega, by omega, by omega, fun v4 H4 sx4 r4 w0 w1 => ?_⟩
          have k4 := k3.trans (r3.tk sx4)
          have hx4 := hcx.tk (((rw_.same s2).tk sx3).trans (r3.tk sx4))
          have hl4 : tn ≤ (xing a T i).length := by rw [xing_len]; omega
          refine ⟨.ref _, rfl, .int (tn : Nat), rfl, tn, rfl, ?_⟩
          try unfold tNoPart
          show rSlA K (.ref _) (some (tn : Int)) none _ _
          refine slA_run hx4 fun b1 H5 s5 h5 => ?_
          refine ⟨.ref _, rfl, .int (tn : Nat), rfl, tn, rfl, ?_⟩
          refine slA_run (hx4.tk (TK.same s5)) fun b2 H6 s6 h6 => ?_
          refine catA_run (h5.tk (TK.same s6)) h6 (cat_fit (by rw [List.length_map, xing_len]; decide) _ _ _ _) fun c2 H7 s7 h7 => ?_
          rw [rot_cut hl4 rfl] at h7
          have s47 := (s5.trans s6).trans s7
          have hlc7 : H7 lc = some (.lst (as.map V.ref)) := s47 _ _ (sx4 _ _ nlcl hlc3)
          refine ⟨lc, _, v4, .ref c2, rfl, rfl, hlc7, by rw [List.length_map, hlen, hcsl]; exact big5 (by omega), w0, by omega, ?_⟩
          have sxa : SameX l Hc H7 := (sx03.trans sx4).trans (SameX.of s47)
          have hac7 : H7 ar = some (.lst (a.map V.int)) := sxa _ _ (Ne.symm nll) hac
          have hac8 : (upd H7 lc (.lst ((as.map V.ref).take v4.toNat ++ [.ref c2] ++ (as.map V.ref).drop v4.toNat))) ar = some (.lst (a.map V.int)) := by rw [upd_ne (Ne.symm nlca)]; exact hac7
          have k7 : TK Hc H7 := k4.trans (TK.same s47)
          have k8 : TK H7 (upd H7 lc (.lst ((as.map V.ref).take v4.toNat ++ [.ref c2] ++ (as.map V.ref).drop v4.toNat))) := TK.put hlc7 fun _ z => nomatch z
          refine ⟨.ref ar, rfl, .int (i : Nat), rfl, 2, (i : Int), rfl, rfl, c2', _, 2, rfl, rfl, ar, _, _, _, rfl, rfl, .inl (.inl hac8), g2, ?_⟩
          refine ⟨.ref ar, rfl, .int (i : Nat), rfl, 2, (i : Int), rfl, rfl, c2', _, 3, rfl, rfl, ar, _, _, _, rfl, rfl, .inl (.inl hac8), g3, _, _, rfl, ?_⟩
          refine ⟨_, _, _, _, as.take v4.toNat ++ [c2] ++ as.drop v4.toNat, cs.take v4.toNat ++ [rot tn (xing a T i)] ++ cs.drop v4.toNat, rfl, ?_, ?_, hac8, ?_, ?_, hro.step (turned_of htn)⟩
          · intro b o nb eb
            have nblc : b ≠ lc := ne_of_none eb nlc0
            rw [upd_ne nblc]
            exact sxa _ _ nb (sm _ _ nb eb)
          · obtain ⟨s9, e9⟩ := r4
            exact ⟨s9, by rw [upd_ne (Ne.symm nlcl)]; exact s47 _ _ e9⟩
          · rw [upd_same, List.map_append, List.map_append, List.map_take, List.map_drop]
            rfl
          · exact Paired.app (Paired.app (paired_take _ (Paired.mapP hcs fun _ _ z => (z.tk k7).tk k8)) (.cons (h7.tk k8) .nil)) (paired_drop _ (Paired.mapP hcs fun _ _ z => (z.tk k7).tk k8))
        · have hpos : ¬ 0 < T.getD i 0 := fun z => e (decide_eq_true z)
          have s2 := sT.trans s0
          have hcx : Tp K (upd HT c0 (.tup [.int (upA a i), .int (loA a i), .int (loA a (i + 1)), .int (upA a (i + 1))])) c0 ((xing a T i).map V.int) := by unfold xing; rw [if_neg hpos]; exact hc0
          clear hc0 s0 sT hacT hpos e
          have sm2 := sm.trans (SameX.of s2)
          refine ⟨.ref l, rfl, l, _, 2, rfl, rw_.same s2, by omega, by decide, by decide, fun v H3 sx3 r3 v0 v1 => ?_⟩
          refine ⟨2, v, rfl, rfl, .inl ⟨by decide, by decide⟩, ?_⟩
          obtain ⟨tn, htn, etn⟩ : ∃ tn : Nat, (tn = 0 ∨ tn = 2) ∧ 2 * v = (tn : Int) := ⟨(2 * v).toNat, by omega, by omega⟩
          show gName 9 (V.int (2 * v)) _ _ _
          rw [etn]
          have k3 : TK Hc H3 := (TK.same s2).trans ((rw_.same s2).tk sx3)
          have sx03 : SameX l Hc H3 := (SameX.of s2).trans sx3
          have hlc3 : H3 lc = some (.lst (as.map V.ref)) := sx03 _ _ nlcl hlc
          have hlen : as.length = cs.length := Paired.len hcs
          have hcsl := hro.len
          refine ⟨.ref lc, rfl, .inl ⟨rfl, _, .inl (.inl hlc3)⟩, .ref l, rfl, .ref lc, rfl, .ref lc, cs.length, rfl, .inl ⟨_, .inl (.inl hlc3), by rw [List.length_map, hlen]⟩, (cs.length : Int), 1, rfl, rfl, ?_⟩
          refine ⟨l, _, _, rfl, r3, by omega, by omega, by omega, fun v4 H4 sx4 r4 w0 w1 => ?_⟩
          have k4 := k3.trans (r3.tk sx4)
          have hx4 := hcx.tk (((rw_.same s2).tk sx3).trans (r3.tk sx4))
          have hl4 : tn ≤ (xing a T i).length := by rw [xing_len]; omega
          refine ⟨.ref _, rfl, .int (tn : Nat), rfl, tn, rfl, ?_⟩
          try unfold tNoPart
          show rSlA K (.ref _) (some (tn : Int)) none _ _
          refine slA_run hx4 fun b1 H5 s5 h5 => ?_
          refine ⟨.ref _, rfl, .int (tn : Nat), rfl, tn, rfl, ?_⟩
          refine slA_run (hx4.tk (TK.same s5)) fun b2 H6 s6 h6 => ?_
          refine catA_run (h5.tk (TK.same s6)) h6 (cat_fit (by rw [List.length_map, xing_len]; decide) _ _ _ _) fun c2 H7 s7 h7 => ?_
          rw [rot_cut hl4 rfl] at h7
          have s47 := (s5.trans s6).trans s7
          have hlc7 : H7 lc = some (.lst (as.map V.ref)) := s47 _ _ (sx4 _ _ nlcl hlc3)
          refine ⟨lc, _, v4, .ref c2, rfl, rfl, hlc7, by rw [List.length_map, hlen, hcsl]; exact big5 (by omega), w0, by omega, ?_⟩
          have sxa : SameX l Hc H7 := (sx03.trans sx4).trans (SameX.of s47)
          have hac7 : H7 ar = some (.lst (a.map V.int)) := sxa _ _ (Ne.symm nll) hac
          have hac8 : (upd H7 lc (.lst ((as.map V.ref).take v4.toNat ++ [.ref c2] ++ (as.map V.ref).drop v4.toNat))) ar = some (.lst (a.map V.int)) := by rw [upd_ne (Ne.symm nlca)]; exact hac7
          have k7 : TK Hc H7 := k4.trans (TK.same s47)
          have k8 : TK H7 (upd H7 lc (.lst ((as.map V.ref).take v4.toNat ++ [.ref c2] ++ (as.map V.ref).drop v4.toNat))) := TK.put hlc7 fun _ z => nomatch z
          refine ⟨.ref ar, rfl, .int (i : Nat), rfl, 2, (i : Int), rfl, rfl, c2', _, 2, rfl, rfl, ar, _, _, _, rfl, rfl, .inl (.inl hac8), g2, ?_⟩
          refine ⟨.ref ar, rfl, .int (i : Nat), rfl, 2, (i : Int), rfl, rfl, c2', _, 3, rfl, rfl, ar, _, _, _, rfl, rfl, .inl (.inl hac8), g3, _, _, rfl, ?_⟩
          refine ⟨_, _, _, _, as.take v4.toNat ++ [c2] ++ as.drop v4.toNat, cs.take v4.toNat ++ [rot tn (xing a T i)] ++ cs.drop v4.toNat, rfl, ?_, ?_, hac8, ?_, ?_, hro.step (turned_of htn)⟩
          · intro b o nb eb
            have nblc : b ≠ lc := ne_of_none eb nlc0
            rw [upd_ne nblc]
            exact sxa _ _ nb (sm _ _ nb eb)
          · obtain ⟨s9, e9⟩ := r4
            exact ⟨s9, by rw [upd_ne (Ne.symm nlcl)]; exact s47 _ _ e9⟩
          · rw [upd_same, List.map_append, List.map_append, List.map_take, List.map_drop]
            rfl
          · exact Paired.app (Paired.app (paired_take _ (Paired.mapP hcs fun _ _ z => (z.tk k7).tk k8)) (.cons (h7.tk k8) .nil)) (paired_drop _ (Paired.mapP hcs fun _ _ z => (z.tk k7).tk k8))
    · have ei : i = T.length := by omega
      subst ei
      refine .inl ⟨⟨_, hTc, by rw [List.length_map]; omega⟩, ?_⟩
      refine ⟨.ref lc, rfl, .ref ar, rfl, ar, _, 0, _, rfl, rfl, .inl (.inl hac), i_at (i := 0) (by omega) rfl, .ref ar, rfl, ar, _, 1, _, rfl, rfl, .inl (.inl hac), i_at (i := 1) (by omega) rfl, .int (loA a T.length), rfl, .int (upA a T.length), rfl, by show 4 ≤ sizeLine; decide, fun te nte => ?_⟩
      refine ⟨by show 2 ≤ sizeLine; decide, fun t nt => ?_⟩
      have s8 := Same.trans (Same.new (o := .tup [.int (a.getD 0 0), .int (a.getD 1 0), .int (loA a T.length), .int (upA a T.length)]) nte) (Same.new (o := .tup [.ref lc, .ref te]) nt)
      refine q t lc te as cs _ (sm.trans (SameX.of s8)) (rw_.same s8) hp o0 o1 l0 l1 upd_same (s8 _ _ hlc) (Paired.mapP hcs fun _ _ z => z.tk (TK.same s8)) hro ((Tp.of upd_same).tk (TK.new nt))
end
end TH
end
section
set_option Elab.async false
set_option linter.all false
set_option maxRecDepth 100000
set_option maxHeartbeats 4000000
set_option pp.maxSteps 600
namespace TH
open PySem PySem.Spec PyProof.Rows L2
theorem ix_listK {X : Cx} (K : PySem.W.Frag) (h : X.K = K) : IxR X (rIxL K) := h ▸ ix_list
def nmd (old new : Int) (c : List Int) : List Int := c.map fun x => if x = old then new else x
def clStep (S : List (List Int) × List (List Int) × Nat) : List (List Int) × List (List Int) × Nat :=
  match S with
  | (cs, [], r) => (cs, [], r)
  | (cs, t :: ps, r) => (cs.map (nmd (t.getD 1 0) (t.getD 0 0)), ps.map (nmd (t.getD 1 0) (t.getD 0 0)), r + if t.getD 0 0 = t.getD 1 0 then 1 else 0)
def pairsOf (e : List Int) (way : Nat) : List (List Int) := if way = 0 then [[e.getD 0 0, e.getD 3 0], [e.getD 1 0, e.getD 2 0]] else [[e.getD 0 0, e.getD 1 0], [e.getD 2 0, e.getD 3 0]]
section
variable {P : Program} {w : World} {K : PySem.W.Frag} {mg : Str → Option Value} {base : Heap}
/-! ### _law_named -/
abbrev sNamed : Stmt := topS 38
theorem scNamed : FnScope ["_law_things", "_law_old", "_law_new", "_law_arc"] ["_law_things", "_law_old", "_law_new"] (defScope sNamed) := ⟨rfl, rfl, rfl, by decide +kernel, rfl, by decide +kernel, by decide +kernel⟩
def spNamed (K : PySem.W.Frag) : Sp := fun vs H Q _ => ∃ (a : Addr) (c : List Int) (old new : Int), vs = [.ref a, .int old, .int new] ∧ Tp K H a (c.map V.int) ∧ c.length ≤ 100 ∧ ∀ b H', Same H H' → Tp K H' b ((nmd old new c).map V.int) → Q (.ref b) H'
theorem ok_named {f : Addr} {fd : FuncData} {k : Nat} (F : Fun K "_law_named" "_law_named" sNamed f fd) (mt : mg "tuple" = none) (mi : mg "int" = none) : FnOk P w K mg base CX0 (k + 1) f fd ["_law_things", "_law_old", "_law_new"] (spNamed K) := by
  refine F.ok scNamed (fun vs H Q E h => ?_) (fun cdv A outer s H vs Q E hr h => ?_)
  · obtain ⟨a, c, old, new, rfl, _⟩ := h
    rfl
  · obtain ⟨a, c, old, new, rfl, ha, hl, q⟩ := h
    refine ⟨_, pss_one (ps_ret (pe_callTy call_tuple_of (by rfl) mt (by decide +kernel) (pa_cons
        (pe_lc (own := [("_law_arc", 3)]) (g := gName 3) rfl scNamed.nd (pi_tup (pv 0))
          (blkOk_by (own := [("_law_arc", 3)]) (N := ["_law_things", "_law_old", "_law_new", "_law_arc"]) (sc := defScope sNamed) (by decide +kernel))
          (fun _ _ _ _ _ => pg_name (i := 3) scNamed.nd rfl (Or.inl rfl)) (fun _ _ _ _ _ => pts_nil)
          (fun _ _ _ _ _ => pe_ix (ix_listK K rfl) (pe_lst (pa_cons (pv 3) (pa_cons (pv 2) pa_nil))) (pe_callTy call_int1 (by rfl) mi (by decide +kernel) (pa_cons (pe_cmpR op_eq (pv 3) (pv 1) (nomark _)) pa_nil)) (fun _ _ => rfl))) pa_nil))), ?_⟩
    refine ⟨.ref a, rfl, a, rfl, ⟨_, ha.sq⟩, fun D nD => lc_tup (xs := c.map V.int) (fun i Hx => Same H Hx ∧ Hx D = some (.lst ((nmd old new (c.take i)).map V.int))) ⟨Same.new nD, upd_same⟩ (fun i Hx hi p => seqT p.1 ha.sq) (fun i x Hx hxi p => ?_) (fun Hx p => ?_)⟩
    · obtain ⟨sx, hD⟩ := p
      rw [List.getElem?_map] at hxi
      obtain ⟨v, hv, rfl⟩ := Option.map_eq_some_iff.mp hxi
      have e3 : (nmd old new (c.take (i + 1))).map V.int = (nmd old new (c.take i)).map V.int ++ [.int (if v = old then new else v)] := by
        unfold nmd
        rw [map_take hv, List.map_append]
        rfl
      refine ⟨rfl, lcYes ⟨.int v, rfl, .int new, rfl, by show 2 ≤ sizeLine; decide, fun r nr => ?_⟩⟩
      refine ⟨.int v, rfl, .int old, rfl, rfl, .inr ⟨decide (V.int v = V.int old), rfl, ?_⟩⟩
      have hr : upd Hx r (.lst [.int v, .int new]) r = some (.lst [.int v, .int new]) := upd_same
      have hD2 : upd Hx r (.lst [.int v, .int new]) D = some (.lst ((nmd old new (c.take i)).map V.int)) := by
        rw [upd_ne (ne_of_none hD nr)]
        exact hD
      refine ⟨r, _, _, .int (if v = old then new else v), rfl, rfl, .inl (.inl hr), ?_, _, hD2, ?_, Same.over (Same.over sx (sx.free nr)) nD, ?_⟩
      · by_cases e : v = old
        · rw [if_pos e, e]
          rw [decide_eq_true (rfl : V.int old = V.int old)]
          rfl
        · rw [if_neg e, decide_eq_false (fun z => e (V.int.inj z))]
          rfl
      · unfold nmd
        rw [List.length_map, List.length_map, List.length_take]
        exact big5 (by omega)
      · rw [upd_same, e3]
    · obtain ⟨sx, hD⟩ := p
      rw [List.length_map, List.take_length] at hD
      exact ⟨D, _, rfl, .inl ⟨.inl (.inl hD), fun r nr => q r _ (Same.over sx (sx.free nr)) (Tp.of upd_same)⟩⟩
/-! ### _law_closed -/
abbrev sClosed : Stmt := topS 39
theorem scClosed : FnScope ["_law_crossings", "_law_ends", "_law_way", "_law_pairs", "_law_rings", "_law_one", "_law_other", "_law_crossing", "_law_two"] ["_law_crossings", "_law_ends", "_law_way"] (defScope sClosed) := ⟨rfl, rfl, rfl, by decide +kernel, rfl, by decide +kernel, by decide +kernel⟩
def CsL (K : PySem.W.Frag) (H : Hp) (l : Addr) (cs : List (List Int)) : Prop := ∃ as : List Addr, H l = some (.lst (as.map V.ref)) ∧ Paired (fun a c => Tp K H a (c.map V.int)) as cs
def spClosed (K : PySem.W.Frag) : Sp := fun vs H Q _ => ∃ (lc te : Addr) (cs : List (List Int)) (ends : List Int) (way : Nat), vs = [.ref lc, .ref te, .int (way : Nat)] ∧ way < 2 ∧ CsL K H lc cs ∧ cs.length ≤ 100 ∧ (∀ c ∈ cs, c.length = 4) ∧ Tp K H te (ends.map V.int) ∧ ends.length = 4 ∧
  ∀ t tc H', Same H H' → H' t = some (.tup [.ref tc, .int ((clStep (clStep (cs, pairsOf ends way, 0))).2.2 : Nat)]) → CsAt K H' tc (clStep (clStep (cs, pairsOf ends way, 0))).1 → Q (.ref t) H'
def clIt : Nat → List (List Int) × List (List Int) × Nat → List (List Int) × List (List Int) × Nat
  | 0, S => S
  | n + 1, S => clIt n (clStep S)
theorem nmd_len (a b : Int) (c : List Int) : (nmd a b c).length = c.length := List.length_map _
theorem CsL.same {K : PySem.W.Frag} {H H' : Hp} {l : Addr} {cs : List (List Int)} (h : CsL K H l cs) (s : Same H H') : CsL K H' l cs := let ⟨as, x, y⟩ := h; ⟨as, s _ _ x, Paired.mapP y fun _ _ z => z.tk (TK.same s)⟩
theorem nmd_take {cs : List (List Int)} {i : Nat} {c : List Int} (a b : Int) (h : cs[i]? = some c) : (cs.take (i + 1)).map (nmd a b) = (cs.take i).map (nmd a b) ++ [nmd a b c] := map_take h
theorem ok_closed {f : Addr} {fd : FuncData} {k : Nat} (F : Fun K "_law_closed" "_law_closed" sClosed f fd) (G : Cal P w K mg base k "_law_named" ["_law_things", "_law_old", "_law_new"] (spNamed K)) (mt : mg "tuple" = none) (mn : mg "len" = none) : FnOk P w K mg base CX0 (k + 1) f fd ["_law_crossings", "_law_ends", "_law_way"] (spClosed K) := by
  refine F.ok scClosed (fun vs H Q E h => ?_) (fun cdv A outer s H vs Q E hr h => ?_)
  · obtain ⟨lc, te, cs, ends, way, rfl, _⟩ := h
    rfl
  · obtain ⟨lc, te, cs, ends, way, rfl, hw, hlc, hl, h4, hte, hel, q⟩ := h
    refine ⟨_, pss_cons (ps_set (i := 3) scClosed.nd rfl (.inl rfl) (pe_ix ix_list (pe_lst (pa_cons
          (pe_lst (pa_cons (pe_tup (pa_cons (pe_ix ix_tup (pv 1) pe_int (fun _ _ => rfl)) (pa_cons (pe_ix ix_tup (pv 1) pe_int (fun _ _ => rfl)) pa_nil))) (pa_cons (pe_tup (pa_cons (pe_ix ix_tup (pv 1) pe_int (fun _ _ => rfl)) (pa_cons (pe_ix ix_tup (pv 1) pe_int (fun _ _ => rfl)) pa_nil))) pa_nil)))
          (pa_cons (pe_lst (pa_cons (pe_tup (pa_cons (pe_ix ix_tup (pv 1) pe_int (fun _ _ => rfl)) (pa_cons (pe_ix ix_tup (pv 1) pe_int (fun _ _ => rfl)) pa_nil))) (pa_cons (pe_tup (pa_cons (pe_ix ix_tup (pv 1) pe_int (fun _ _ => rfl)) (pa_cons (pe_ix ix_tup (pv 1) pe_int (fun _ _ => rfl)) pa_nil))) pa_nil))) pa_nil))) (pv 2) (fun _ _ => rfl)))
      (pss_cons (ps_set (i := 4) scClosed.nd rfl (.inl rfl) pe_int)
      (pss_cons (ps_while PassesOwn.never (pt_cmpR op_gt (pe_callB call_len (by rfl) mn PySem.boot_len (pa_cons (pv 3) pa_nil)) pe_int (nomark _))
        (pss_cons (ps_asg (pe_bm PySem.F.plainAttrs_list PySem.F.slot_list_pop PySem.F.type_list_pop mt_popAt (pv 3) (pa_cons pe_int pa_nil)) (pg_tup rfl (pgs_cons (pg_name (i := 5) scClosed.nd rfl (.inr rfl)) (pgs_cons (pg_name (i := 6) scClosed.nd rfl (.inr rfl)) pgs_nil))))
        (pss_cons (ps_if (pt_cmpR op_eq (pv 5) (pv 6) (nomark _)) (pss_one (ps_set (i := 4) scClosed.nd rfl (.inl rfl) (pe_op op_add (pv 4) pe_int))) pss_nil)
        (pss_cons (ps_setLc (i := 0) (own := [("_law_crossing", 7)]) (g := gName 7) rfl scClosed.nd rfl rfl rfl (pi_list (pv 0))
          (blkOk_by (own := [("_law_crossing", 7)]) (N := ["_law_crossings", "_law_ends", "_law_way", "_law_pairs", "_law_rings", "_law_one", "_law_other", "_law_crossing", "_law_two"]) (sc := defScope sClosed) (by decide +kernel))
          (fun _ _ _ _ _ => pg_name (i := 7) scClosed.nd rfl (Or.inl rfl)) (fun _ _ _ _ _ => pts_nil)
          (fun _ _ _ _ _ => pe_cal G hr (by rfl) (pa_cons (pv 7) (pa_cons (pv 6) (pa_cons (pv 5) pa_nil)))))
        (pss_one (ps_setLc (i := 3) (own := [("_law_two", 8)]) (g := gName 8) rfl scClosed.nd rfl rfl rfl (pi_list (pv 3))
          (blkOk_by (own := [("_law_two", 8)]) (N := ["_law_crossings", "_law_ends", "_law_way", "_law_pairs", "_law_rings", "_law_one", "_law_other", "_law_crossing", "_law_two"]) (sc := defScope sClosed) (by decide +kernel))
          (fun _ _ _ _ _ => pg_name (i := 8) scClosed.nd rfl (Or.inl rfl)) (fun _ _ _ _ _ => pts_nil)
          (fun _ _ _ _ _ => pe_cal G hr (by rfl) (pa_cons (pv 8) (pa_cons (pv 6) (pa_cons (pv 5) pa_nil))))))))))
      (pss_one (ps_ret (pe_tup (pa_cons (pe_callTy call_tuple_of (by rfl) mt (by decide +kernel) (pa_cons (pv 0) pa_nil)) (pa_cons (pv 4) pa_nil))))))), ?_⟩
    have at_e : ∀ j : Nat, j < 4 → atI (ends.map V.int) (j : Nat) = some (.int (ends.getD j 0)) := fun j hj => c_at (by omega)
    -- the pairs
    refine ⟨.ref te, rfl, te, _, 0, _, rfl, rfl, hte.sq, at_e 0 (by decide), .ref te, rfl, te, _, 3, _, rfl, rfl, hte.sq, at_e 3 (by decide), by show 2 ≤ sizeLine; decide, fun t1 nt1 => ?_⟩
    have s1 := Same.new (o := .tup [.int (ends.getD 0 0), .int (ends.getD 3 0)]) nt1
    refine ⟨.ref te, rfl, te, _, 1, _, rfl, rfl, (hte.tk (TK.same s1)).sq, at_e 1 (by decide), .ref te, rfl, te, _, 2, _, rfl, rfl, (hte.tk (TK.same s1)).sq, at_e 2 (by decide), by show 2 ≤ sizeLine; decide, fun t2 nt2 => ?_⟩
    have s2 := s1.trans (Same.new (o := .tup [.int (ends.getD 1 0), .int (ends.getD 2 0)]) nt2)
    refine ⟨by show 2 ≤ sizeLine; decide, fun L1 nL1 => ?_⟩
    have s3 := s2.trans (Same.new (o := .lst [.ref t1, .ref t2]) nL1)
    refine ⟨.ref te, rfl, te, _, 0, _, rfl, rfl, (hte.tk (TK.same s3)).sq, at_e 0 (by decide), .ref te, rfl, te, _, 1, _, rfl, rfl, (hte.tk (TK.same s3)).sq, at_e 1 (by decide), by show 2 ≤ sizeLine; decide, fun t3 nt3 => ?_⟩
    have s4 := s3.trans (Same.new (o := .tup [.int (ends.getD 0 0), .int (ends.getD 1 0)]) nt3)
    refine ⟨.ref te, rfl, te, _, 2, _, rfl, rfl, (hte.tk (TK.same s4)).sq, at_e 2 (by decide), .ref te, rfl, te, _, 3, _, rfl, rfl, (hte.tk (TK.same s4)).sq, at_e 3 (by decide), by show 2 ≤ sizeLine; decide, fun t4 nt4 => ?_⟩
    have s5 := s4.trans (Same.new (o := .tup [.int (ends.getD 2 0), .int (ends.getD 3 0)]) nt4)
    refine ⟨by show 2 ≤ sizeLine; decide, fun L2 nL2 => ?_⟩
    have s6 := s5.trans (Same.new (o := .lst [.ref t3, .ref t4]) nL2)
    refine ⟨by show 2 ≤ sizeLine; decide, fun L0 nL0 => ?_⟩
    have s7 := s6.trans (Same.new (o := .lst [.ref L1, .ref L2]) nL0)
    have u7 := Same.new (o := .lst [.ref L1, .ref L2]) nL0
    have u6 := (Same.new (o := .lst [.ref t3, .ref t4]) nL2).trans u7
    have u5 := (Same.new (o := .tup [.int (ends.getD 2 0), .int (ends.getD 3 0)]) nt4).trans u6
    have u4 := (Same.new (o := .tup [.int (ends.getD 0 0), .int (ends.getD 1 0)]) nt3).trans u5
    have u3 := (Same.new (o := .lst [.ref t1, .ref t2]) nL1).trans u4
    have u2 := (Same.new (o := .tup [.int (ends.getD 1 0), .int (ends.getD 2 0)]) nt2).trans u3
    have hp : ∃ lpp, atI [V.ref L1, V.ref L2] (way : Nat) = some (.ref lpp) ∧ H lpp = none ∧ CsL K (upd (upd (upd (upd (upd (upd (upd H t1 (.tup [.int (ends.getD 0 0), .int (ends.getD 3 0)])) t2 (.tup [.int (ends.getD 1 0), .int (ends.getD 2 0)])) L1 (.lst [.ref t1, .ref t2])) t3 (.tup [.int (ends.getD 0 0), .int (ends.getD 1 0)])) t4 (.tup [.int (ends.getD 2 0), .int (ends.getD 3 0)])) L2 (.lst [.ref t3, .ref t4])) L0 (.lst [.ref L1, .ref L2])) lpp (pairsOf ends way) := by
      have : way = 0 ∨ way = 1 := by omega
      rcases this with rfl | rfl
      · exact ⟨L1, rfl, s2.free nL1, [t1, t2], u4 _ _ upd_same, .cons (Tp.of (u2 _ _ upd_same)) (.cons (Tp.of (u3 _ _ upd_same)) .nil)⟩
      · exact ⟨L2, rfl, s5.free nL2, [t3, t4], u7 _ _ upd_same, .cons (Tp.of (u5 _ _ upd_same)) (.cons (Tp.of (u6 _ _ upd_same)) .nil)⟩
    obtain ⟨lpp0, hat, nlpp0, hcp⟩ := hp
    refine ⟨.int (way : Nat), rfl, L0, _, (way : Nat), _, rfl, rfl, .inl (.inl upd_same), hat, ?_⟩
    have hpl : (pairsOf ends way).length = 2 := by unfold pairsOf; split <;> rfl
    have hp2 : ∀ p ∈ pairsOf ends way, p.length = 2 := by unfold pairsOf; split <;> (intro p hp; simp at hp; rcases hp with rfl | rfl <;> rfl)
    have nlc0 : lc ≠ lpp0 := fun z => by obtain ⟨as, e, _⟩ := hlc; rw [z, nlpp0] at e; cases e
    clear u2 u3 u4 u5 u6 u7 s1 s2 s3 s4 s5 s6 hat
    refine ⟨fun m σ Hc => ∃ lcc lpp cs1 ps r y5 y6, σ = [some (.ref lcc), some (.ref te), some (.int (way : Nat)), some (.ref lpp), some (.int (r : Nat)), y5, y6, none, none] ∧ m = ps.length ∧ Same H Hc ∧ CsL K Hc lcc cs1 ∧ CsL K Hc lpp ps ∧ lcc ≠ lpp ∧ H lpp = none ∧
        cs1.length = cs.length ∧ (∀ c ∈ cs1, c.length = 4) ∧ (∀ p ∈ ps, p.length = 2) ∧ ps.length ≤ 2 ∧ clIt 2 (cs, pairsOf ends way, 0) = clIt ps.length (cs1, ps, r),
      ⟨2, lc, lpp0, cs, pairsOf ends way, 0, none, none, rfl, hpl.symm, s7, hlc.same s7, hcp, nlc0, nlpp0, rfl, h4, hp2, by omega, by rw [hpl]⟩, fun m σ Hc pv => ?_⟩
    obtain ⟨lcc, lpp, cs1, ps, r, y5, y6, rfl, rfl, sm, ⟨as1, hc1, pc1⟩, ⟨asp, hps0, pps⟩, ncp, nlp, lcs, l4, lps2, l2, hit⟩ := pv
    refine ⟨.ref lpp, rfl, .ref lpp, ps.length, rfl, .inl ⟨_, .inl (.inl hps0), by rw [List.length_map, Paired.len pps]⟩, (ps.length : Int), 0, rfl, rfl, _, rfl, ite2 (fun e => ?_) (fun e => ?_)⟩
    · cases ps with
      | nil => exact absurd (of_decide_eq_true e) (by decide)
      | cons pr ps' =>
      cases pps with
      | cons hta ppr =>
      rename_i ta asr
      have hpr2 := lps2 pr List.mem_cons_self
      obtain ⟨x, y, rfl⟩ : ∃ x y, pr = [x, y] := by
        match pr, hpr2 with
        | [x, y], _ => exact ⟨x, y, rfl⟩
      have lps : ∀ p ∈ ps', p.length = 2 := fun p hp => lps2 p (List.mem_cons_of_mem _ hp)
      have l2' : ps'.length ≤ 1 := by rw [List.length_cons] at l2; omega
      refine ⟨fun σ' H' => ∃ lcc lpp cs1 ps r y5 y6, σ' = [some (.ref lcc), some (.ref te), some (.int (way : Nat)), some (.ref lpp), some (.int (r : Nat)), y5, y6, none, none] ∧ ps.length = ps'.length ∧ Same H H' ∧ CsL K H' lcc cs1 ∧ CsL K H' lpp ps ∧ lcc ≠ lpp ∧ H lpp = none ∧
          cs1.length = cs.length ∧ (∀ c ∈ cs1, c.length = 4) ∧ (∀ p ∈ ps, p.length = 2) ∧ ps.length ≤ 2 ∧ clIt 2 (cs, pairsOf ends way, 0) = clIt ps.length (cs1, ps, r), fun σ' H' hN => ?_, ?_⟩
      · obtain ⟨lcc', lpp', cs1', ps2, r', z5, z6, e1, e2, rest⟩ := hN
        exact ⟨ps2.length, by rw [e2, List.length_cons]; omega, lcc', lpp', cs1', ps2, r', z5, z6, e1, rfl, rest⟩
      have hx0 : seqIndex? 0 ((ta :: asr).map V.ref).length = some 0 := by
        rw [List.length_map, List.length_cons]
        exact seqIndex_of (by decide) (by omega)
      refine ⟨.ref lpp, rfl, .inl ⟨rfl, _, .inl (.inl hps0)⟩, lpp, _, 0, 0, .ref ta, rfl, rfl, hps0, by decide, by decide, hx0, rfl, ?_⟩
      have sq : Same H (upd Hc lpp (.lst (((ta :: asr).map V.ref).eraseIdx 0))) := Same.over sm nlp
      have kq : TK Hc (upd Hc lpp (.lst (((ta :: asr).map V.ref).eraseIdx 0))) := TK.put hps0 fun _ z => nomatch z
      have hcq : (upd Hc lpp (.lst (((ta :: asr).map V.ref).eraseIdx 0))) lcc = some (.lst (as1.map V.ref)) := by rw [upd_ne ncp]; exact hc1
      have hpq : (upd Hc lpp (.lst (((ta :: asr).map V.ref).eraseIdx 0))) lpp = some (.lst (asr.map V.ref)) := upd_same
      have pcq := Paired.mapP pc1 fun _ _ z => Tp.tk z kq
      have ppq := Paired.mapP ppr fun _ _ z => Tp.tk z kq
      have htq := hta.tk kq
      refine ⟨ta, _, rfl, htq.sq, rfl, _, _, rfl, _, _, rfl, rfl, ?_⟩
      show tSeq _ _ _ _ (upd Hc lpp (.lst (((ta :: asr).map V.ref).eraseIdx 0)))
      generalize upd Hc lpp (.lst (((ta :: asr).map V.ref).eraseIdx 0)) = Hq at sq kq hcq hpq pcq ppq htq
      refine ⟨.int x, rfl, .int y, rfl, rfl, _, rfl, ite2 (fun e => ?_) (fun e => ?_)⟩
      · have ex : x = y := V.int.inj (of_decide_eq_true e)
        refine ⟨.int (r : Nat), rfl, (r : Int), 1, rfl, rfl, ?_⟩
        have er : (r + if x = y then 1 else 0) = r + 1 := by rw [if_pos ex]
        refine ⟨.ref lcc, rfl, lcc, rfl, ⟨_, .inl (.inl hcq)⟩, fun D1 nD1 => lc_list (xs := as1.map V.ref) (fun i Hx => Same Hq Hx ∧ ∃ as2 : List Addr, Hx D1 = some (.lst (as2.map V.ref)) ∧ Paired (fun a c => Tp K Hx a (c.map V.int)) as2 ((cs1.take i).map (nmd y x))) ⟨Same.new nD1, [], upd_same, .nil⟩ (fun i Hx hi p => .inl (.inl (p.1 _ _ hcq))) (fun i v Hx hxi p => ?_) (fun HX p => ?_)⟩
        · obtain ⟨sx, as2, hD, hpr⟩ := p
          rw [List.getElem?_map] at hxi
          obtain ⟨ai, hai, rfl⟩ := Option.map_eq_some_iff.mp hxi
          obtain ⟨c, hc, htc⟩ := paired_get pcq hai
          have hi9 := (List.getElem?_eq_some_iff.mp hc).1
          refine ⟨rfl, lcYes ⟨.ref ai, rfl, .int y, rfl, .int x, rfl, ai, c, y, x, rfl, htc.tk (TK.same sx), Nat.le_trans (Nat.le_of_eq (l4 c (List.mem_of_getElem? hc))) (by decide), fun b H9 s9 hb => ⟨as2.map V.ref, s9 _ _ hD, ?_, Same.over (sx.trans s9) nD1, as2 ++ [b], ?_, ?_⟩⟩⟩
          · rw [List.length_map, Paired.len hpr, List.length_map, List.length_take]
            exact big5 (by omega)
          · rw [upd_same, List.map_append]
            rfl
          · have k9 : TK H9 (upd H9 D1 (.lst (as2.map V.ref ++ [.ref b]))) := TK.put (s9 _ _ hD) fun _ z => nomatch z
            rw [nmd_take _ _ hc]
            exact Paired.app (Paired.mapP hpr fun _ _ z => (z.tk (TK.same s9)).tk k9) (.cons (hb.tk k9) .nil)
        obtain ⟨sD1, as2, hD, hpr⟩ := p
        rw [List.length_map, Paired.len pcq, List.take_length] at hpr
        have hD1 : CsL K HX D1 (cs1.map (nmd y x)) := ⟨as2, hD, hpr⟩
        clear hpr hD as2
        obtain ⟨hpX, ppX⟩ : HX lpp = some (.lst (asr.map V.ref)) ∧ Paired (fun a c => Tp K HX a (c.map V.int)) asr ps' := ⟨sD1 _ _ hpq, Paired.mapP ppq fun _ _ z => z.tk (TK.same sD1)⟩
        refine ⟨.ref lpp, rfl, lpp, rfl, ⟨_, .inl (.inl hpX)⟩, fun D2 nD2 => lc_list (xs := asr.map V.ref) (fun i Hx => Same HX Hx ∧ ∃ as2 : List Addr, Hx D2 = some (.lst (as2.map V.ref)) ∧ Paired (fun a c => Tp K Hx a (c.map V.int)) as2 ((ps'.take i).map (nmd y x))) ⟨Same.new nD2, [], upd_same, .nil⟩ (fun i Hx hi p => .inl (.inl (p.1 _ _ hpX))) (fun i v Hx hxi p => ?_) (fun HY p => ?_)⟩
        · obtain ⟨sx, as2, hD, hpr⟩ := p
          rw [List.getElem?_map] at hxi
          obtain ⟨ai, hai, rfl⟩ := Option.map_eq_some_iff.mp hxi
          obtain ⟨c, hc, htc⟩ := paired_get ppX hai
          have hi9 := (List.getElem?_eq_some_iff.mp hc).1
          refine ⟨rfl, lcYes ⟨.ref ai, rfl, .int y, rfl, .int x, rfl, ai, c, y, x, rfl, htc.tk (TK.same sx), Nat.le_trans (Nat.le_of_eq (lps c (List.mem_of_getElem? hc))) (by decide), fun b H9 s9 hb => ⟨as2.map V.ref, s9 _ _ hD, ?_, Same.over (sx.trans s9) nD2, as2 ++ [b], ?_, ?_⟩⟩⟩
          · rw [List.length_map, Paired.len hpr, List.length_map, List.length_take]
            exact big5 (by omega)
          · rw [upd_same, List.map_append]
            rfl
          · have k9 : TK H9 (upd H9 D2 (.lst (as2.map V.ref ++ [.ref b]))) := TK.put (s9 _ _ hD) fun _ z => nomatch z
            rw [nmd_take _ _ hc]
            exact Paired.app (Paired.mapP hpr fun _ _ z => (z.tk (TK.same s9)).tk k9) (.cons (hb.tk k9) .nil)
        obtain ⟨sD2, as2, hD, hpr⟩ := p
        rw [List.length_map, Paired.len ppX, List.take_length] at hpr
        have hD2 : CsL K HY D2 (ps'.map (nmd y x)) := ⟨as2, hD, hpr⟩
        clear hpr hD as2
        have sY : Same H HY := (sq.trans sD1).trans sD2
        have nD12 : D1 ≠ D2 := fun z => by obtain ⟨aa, ee, _⟩ := hD1; rw [z, nD2] at ee; cases ee
        refine ⟨D1, D2, cs1.map (nmd y x), ps'.map (nmd y x), r + 1, some (.int x), some (.int y), rfl, List.length_map _, sY, hD1.same sD2, hD2, nD12, sq.free (sD1.free nD2), by rw [List.length_map]; exact lcs, fun c hc => ?_, fun p hp => ?_, by rw [List.length_map]; omega, ?_⟩
        · obtain ⟨c0, h0, rfl⟩ := List.mem_map.mp hc
          rw [nmd_len]
          exact l4 c0 h0
        · obtain ⟨c0, h0, rfl⟩ := List.mem_map.mp hp
          rw [nmd_len]
          exact lps c0 h0
        · rw [hit, List.length_map]
          show clIt ps'.length (cs1.map (nmd y x), ps'.map (nmd y x), r + if x = y then 1 else 0) = _
          rw [er]
      · have ex : ¬ x = y := fun z => e (decide_eq_true (by rw [z]))
        have er : (r + if x = y then 1 else 0) = r := by rw [if_neg ex]; rfl
        refine ⟨.ref lcc, rfl, lcc, rfl, ⟨_, .inl (.inl hcq)⟩, fun D1 nD1 => lc_list (xs := as1.map V.ref) (fun i Hx => Same Hq Hx ∧ ∃ as2 : List Addr, Hx D1 = some (.lst (as2.map V.ref)) ∧ Paired (fun a c => Tp K Hx a (c.map V.int)) as2 ((cs1.take i).map (nmd y x))) ⟨Same.new nD1, [], upd_same, .nil⟩ (fun i Hx hi p => .inl (.inl (p.1 _ _ hcq))) (fun i v Hx hxi p => ?_) (fun HX p => ?_)⟩
        · obtain ⟨sx, as2, hD, hpr⟩ := p
          rw [List.getElem?_map] at hxi
          obtain ⟨ai, hai, rfl⟩ := Option.map_eq_some_iff.mp hxi
          obtain ⟨c, hc, htc⟩ := paired_get pcq hai
          have hi9 := (List.getElem?_eq_some_iff.mp hc).1
          refine ⟨rfl, lcYes ⟨.ref ai, rfl, .int y, rfl, .int x, rfl, ai, c, y, x, rfl, htc.tk (TK.same sx), Nat.le_trans (Nat.le_of_eq (l4 c (List.mem_of_getElem? hc))) (by decide), fun b H9 s9 hb => ⟨as2.map V.ref, s9 _ _ hD, ?_, Same.over (sx.trans s9) nD1, as2 ++ [b], ?_, ?_⟩⟩⟩
          · rw [List.length_map, Paired.len hpr, List.length_map, List.length_take]
            exact big5 (by omega)
          · rw [upd_same, List.map_append]
            rfl
          · have k9 : TK H9 (upd H9 D1 (.lst (as2.map V.ref ++ [.ref b]))) := TK.put (s9 _ _ hD) fun _ z => nomatch z
            rw [nmd_take _ _ hc]
            exact Paired.app (Paired.mapP hpr fun _ _ z => (z.tk (TK.same s9)).tk k9) (.cons (hb.tk k9) .nil)
        obtain ⟨sD1, as2, hD, hpr⟩ := p
        rw [List.length_map, Paired.len pcq, List.take_length] at hpr
        have hD1 : CsL K HX D1 (cs1.map (nmd y x)) := ⟨as2, hD, hpr⟩
        clear hpr hD as2
        obtain ⟨hpX, ppX⟩ : HX lpp = some (.lst (asr.map V.ref)) ∧ Paired (fun a c => Tp K HX a (c.map V.int)) asr ps' := ⟨sD1 _ _ hpq, Paired.mapP ppq fun _ _ z => z.tk (TK.same sD1)⟩
        refine ⟨.ref lpp, rfl, lpp, rfl, ⟨_, .inl (.inl hpX)⟩, fun D2 nD2 => lc_list (xs := asr.map V.ref) (fun i Hx => Same HX Hx ∧ ∃ as2 : List Addr, Hx D2 = some (.lst (as2.map V.ref)) ∧ Paired (fun a c => Tp K Hx a (c.map V.int)) as2 ((ps'.take i).map (nmd y x))) ⟨Same.new nD2, [], upd_same, .nil⟩ (fun i Hx hi p => .inl (.inl (p.1 _ _ hpX))) (fun i v Hx hxi p => ?_) (fun HY p => ?_)⟩
        · obtain ⟨sx, as2, hD, hpr⟩ := p
          rw [List.getElem?_map] at hxi
          obtain ⟨ai, hai, rfl⟩ := Option.map_eq_some_iff.mp hxi
          obtain ⟨c, hc, htc⟩ := paired_get ppX hai
          have hi9 := (List.getElem?_eq_some_iff.mp hc).1
          refine ⟨rfl, lcYes ⟨.ref ai, rfl, .int y, rfl, .int x, rfl, ai, c, y, x, rfl, htc.tk (TK.same sx), Nat.le_trans (Nat.le_of_eq (lps c (List.mem_of_getElem? hc))) (by decide), fun b H9 s9 hb => ⟨as2.map V.ref, s9 _ _ hD, ?_, Same.over (sx.trans s9) nD2, as2 ++ [b], ?_, ?_⟩⟩⟩
          · rw [List.length_map, Paired.len hpr, List.length_map, List.length_take]
            exact big5 (by omega)
          · rw [upd_same, List.map_append]
            rfl
          · have k9 : TK H9 (upd H9 D2 (.lst (as2.map V.ref ++ [.ref b]))) := TK.put (s9 _ _ hD) fun _ z => nomatch z
            rw [nmd_take _ _ hc]
            exact Paired.app (Paired.mapP hpr fun _ _ z => (z.tk (TK.same s9)).tk k9) (.cons (hb.tk k9) .nil)
        obtain ⟨sD2, as2, hD, hpr⟩ := p
        rw [List.length_map, Paired.len ppX, List.take_length] at hpr
        have hD2 : CsL K HY D2 (ps'.map (nmd y x)) := ⟨as2, hD, hpr⟩
        clear hpr hD as2
        have sY : Same H HY := (sq.trans sD1).trans sD2
        have nD12 : D1 ≠ D2 := fun z => by obtain ⟨aa, ee, _⟩ := hD1; rw [z, nD2] at ee; cases ee
        refine ⟨D1, D2, cs1.map (nmd y x), ps'.map (nmd y x), r, some (.int x), some (.int y), rfl, List.length_map _, sY, hD1.same sD2, hD2, nD12, sq.free (sD1.free nD2), by rw [List.length_map]; exact lcs, fun c hc => ?_, fun p hp => ?_, by rw [List.length_map]; omega, ?_⟩
        · obtain ⟨c0, h0, rfl⟩ := List.mem_map.mp hc
          rw [nmd_len]
          exact l4 c0 h0
        · obtain ⟨c0, h0, rfl⟩ := List.mem_map.mp hp
          rw [nmd_len]
          exact lps c0 h0
        · rw [hit, List.length_map]
          show clIt ps'.length (cs1.map (nmd y x), ps'.map (nmd y x), r + if x = y then 1 else 0) = _
          rw [er]
    · have hp0 : ps = [] := by
        cases ps with
        | nil => rfl
        | cons a L => exact absurd (decide_eq_true (by show (0:Int) < ((L.length + 1 : Nat) : Int); omega)) e
      subst hp0
      have e2 : clStep (clStep (cs, pairsOf ends way, 0)) = (cs1, [], r) := hit
      refine ⟨.ref lcc, rfl, lcc, _, rfl, .inl ⟨.inl (.inl hc1), fun tc ntc => ?_⟩⟩
      have st := Same.new (o := .tup (as1.map V.ref)) ntc
      refine ⟨.int (r : Nat), rfl, by show 2 ≤ sizeLine; decide, fun t nt => ?_⟩
      have st2 := st.trans (Same.new (o := .tup [.ref tc, .int (r : Nat)]) nt)
      refine q t tc _ (sm.trans st2) ?_ ?_
      · rw [e2]
        exact upd_same
      · rw [e2]
        exact ⟨as1, (Tp.of upd_same).tk (TK.new nt), Paired.mapP pc1 fun _ _ z => z.tk (TK.same st2)⟩
end
end TH
end
section
set_option Elab.async false
set_option linter.all false
set_option maxRecDepth 100000
set_option maxHeartbeats 4000000
set_option pp.maxSteps 600
namespace TH
open PySem PySem.Spec PyProof.Rows L2
theorem cr_slenK {X : Cx} (P : Program) (w : World) (K : PySem.W.Frag) (h1 : X.prog = P) (h2 : X.w = w) (h3 : X.K = K) : CallR X (.builtin "len") (rSLen P w K) := by
  subst h1 h2 h3
  exact cr_slen
theorem op_nePlK {X : Cx} (K : PySem.W.Frag) (h3 : X.K = K) (hu : X.A.units + 64 < cLine) : OpR X (compareOp .NotEq) (rNePl K) := by
  subst h3
  exact op_nePl hu
/-! ### what the law asks of the mathematics -/
def tw (T : List Int) : PL × PL := T.foldl (fun s w => (twA s.1 w, twS s.1 s.2 w)) ([(0, 1)], [])
def dueOpen (T : List Int) (rings : Nat) : List (PL × PL) := [([(0, 3), (1, 2)], lpoly (lring (tw T).1 rings)), ([(0, 1), (2, 3)], lpoly (lring (tw T).2 rings))]
def dueClosed (T : List Int) (way rings : Nat) : List (PL × PL) := [([], lpoly (lput (lring (tw T).1 (2 - way + rings)) (lring (tw T).2 (1 + way + rings)) 0 1))]
def dueOf (l : List (PL × PL)) : List (PL × PL) := l.filter fun e => decide (e.2 ≠ [])
def Good (w : World) (cs : List (List Int)) (ends : List Int) (rings : Nat) (due : List (PL × PL)) : Prop :=
  WebOk w cs ∧ ∀ res, Tak cs [] (List.range cs.length) res → sEq (sumsOf (stAt cs (res.map (·.1)) cs.length) ends rings) (smerge [] (dueOf due)) = true ∧ ∀ i, i < cs.length → (stAt cs (res.map (·.1)) (i + 1)).length ≤ 3
def endsOf (a T : List Int) : List Int := [a.getD 0 0, a.getD 1 0, loA a T.length, upA a T.length]
def LawMath (w : World) : Prop := ∀ (T : List Int) (p o lp : Int) (cs : List (List Int)) (rings : Nat), (∀ t ∈ T, t = 1 ∨ t = -1) → T.length ≤ 40 → (p = 101 ∨ p = 10007 ∨ p = 999999937) → 0 ≤ o → o < p → 1 ≤ lp → lp < p → rings ≤ 2 →
  RowsOk (arcsOf p o lp (2 * T.length + 2)) T T.length cs →
  Good w cs (endsOf (arcsOf p o lp (2 * T.length + 2)) T) rings (dueOpen T rings) ∧ ∀ way, way < 2 → (clStep (clStep (cs, pairsOf (endsOf (arcsOf p o lp (2 * T.length + 2)) T) way, 0))).2.2 ≤ 2 ∧
    Good w (clStep (clStep (cs, pairsOf (endsOf (arcsOf p o lp (2 * T.length + 2)) T) way, 0))).1 [] (rings + (clStep (clStep (cs, pairsOf (endsOf (arcsOf p o lp (2 * T.length + 2)) T) way, 0))).2.2) (dueClosed T way rings)
theorem tw_snoc (T : List Int) (x : Int) : tw (T ++ [x]) = (twA (tw T).1 x, twS (tw T).1 (tw T).2 x) := by
  unfold tw
  rw [List.foldl_append]
  rfl
theorem tw_len (T : List Int) : (tw T).1.length ≤ 1 ∧ (tw T).2.length ≤ T.length := by
  unfold tw
  suffices h : ∀ (T : List Int) (s : PL × PL), s.1.length ≤ 1 → (T.foldl (fun s w => (twA s.1 w, twS s.1 s.2 w)) s).1.length ≤ 1 ∧ (T.foldl (fun s w => (twA s.1 w, twS s.1 s.2 w)) s).2.length ≤ s.2.length + T.length by
    have z := h T ([(0, 1)], []) (Nat.le_refl 1)
    refine ⟨z.1, Nat.le_trans z.2 ?_⟩
    show 0 + T.length ≤ T.length
    omega
  intro T
  induction T with
  | nil => exact fun s hs => ⟨hs, Nat.le_refl _⟩
  | cons w T ih =>
    intro s hs
    have h1 : (twA s.1 w).length ≤ 1 := by
      have := lput_count [] s.1 w 1
      rw [List.length_nil] at this
      unfold twA
      omega
    have h2 : (twS s.1 s.2 w).length ≤ s.2.length + 1 := by
      have z1 := lput_count [] s.1 (-w) 1
      have z2 := lput_count (lput [] s.1 (-w) 1) s.2 (-3 * w) (-1)
      rw [List.length_nil] at z1
      unfold twS
      omega
    obtain ⟨z1, z2⟩ := ih (twA s.1 w, twS s.1 s.2 w) h1
    refine ⟨z1, Nat.le_trans z2 ?_⟩
    rw [List.length_cons]
    show (twS s.1 s.2 w).length + _ ≤ _
    omega
theorem CsL.sameX {K : PySem.W.Frag} {l lc : Addr} {H H' : Hp} {n : Nat} {cs : List (List Int)} (h : CsL K H lc cs) (hl : RowAt H l n) (s : SameX l H H') : CsL K H' lc cs := by
  obtain ⟨as, e1, e2⟩ := h
  obtain ⟨s0, e0⟩ := hl
  refine ⟨as, s _ _ (fun z => ?_) e1, Paired.mapP e2 fun _ _ z => z.tk (RowAt.tk ⟨s0, e0⟩ s)⟩
  rw [z, e0] at e1
  have z2 := HO.lst.inj (Option.some.inj e1)
  cases as with
  | nil => cases z2
  | cons a as => cases z2
theorem key_pl {K : PySem.W.Frag} {H : Hp} {k1 k2 kk : Addr} {p q : Int × Int} (n2 : upd H k1 (.tup [.int p.1, .int p.2]) k2 = none) (nk : upd (upd H k1 (.tup [.int p.1, .int p.2])) k2 (.tup [.int q.1, .int q.2]) kk = none) :
    Pl K (upd (upd (upd H k1 (.tup [.int p.1, .int p.2])) k2 (.tup [.int q.1, .int q.2])) kk (.tup [.ref k1, .ref k2])) (.ref kk) [p, q] :=
  ⟨kk, _, rfl, Tp.of upd_same, .cons ⟨k1, rfl, Tp.of ((Same.new nk) _ _ ((Same.new n2) _ _ upd_same))⟩ (.cons ⟨k2, rfl, Tp.of ((Same.new nk) _ _ upd_same)⟩ .nil)⟩
theorem lring_small {nm : PL} {n : Nat} (h : nm.length ≤ 100) (hn : n ≤ 5) : (lring nm n).length ≤ 3200 := by
  have h1 := lring_count nm n
  have h2 : 2 ^ n ≤ 2 ^ 5 := Nat.pow_le_pow_right (by decide) hn
  have h3 := Nat.mul_le_mul h2 h
  omega
/-- a row of statements by a word between -/
theorem seq_mid {s r : TS} {D : Ends} {σ : L2.St} {H : Hp} (I : L2.St → Hp → Prop) (hr : ∀ σ2 H2, I σ2 H2 → r D σ2 H2) (hs : ∀ N : L2.St → Hp → Prop, (∀ σ2 H2, I σ2 H2 → N σ2 H2) → s { D with nx := N } σ H) : tSeq s r D σ H := hs _ hr
def TwOk (H : Hp) (l t : Addr) (n : Nat) (T : List Int) : Prop := RowAt H l n ∧ H t = some (.lst (T.map V.int)) ∧ t ≠ l ∧ T.length ≤ 40 ∧ ∀ x ∈ T, x = 1 ∨ x = -1
theorem pm_at {v : Int} (h0 : 0 ≤ v) (h1 : v < 2) : ∃ z : Int, (z = 1 ∨ z = -1) ∧ atI [V.int (-1), V.int 1] v = some (.int z) := by
  have : v = 0 ∨ v = 1 := by omega
  rcases this with rfl | rfl
  · exact ⟨-1, .inr rfl, rfl⟩
  · exact ⟨1, .inl rfl, rfl⟩
theorem cut_ints {ns : List Int} {i : Nat} {x : V} (h : (cutV (ns.map V.int) (some 1) (some 41))[i]? = some x) : ∃ v, x = .int v := by
  have m := List.mem_of_getElem? h
  unfold cutV at m
  have m2 := List.mem_of_mem_drop (List.mem_of_mem_take m)
  obtain ⟨v, _, e⟩ := List.mem_map.mp m2
  exact ⟨v, e.symm⟩
theorem cut_40 (ns : List Int) : (cutV (ns.map V.int) (some 1) (some 41)).length ≤ 40 := by
  unfold cutV
  have e1 : HT.sIx (ns.map V.int).length 0 (some 1) = min 1 (ns.map V.int).length := HT.sIx_nat _ _ 1
  have e2 : HT.sIx (ns.map V.int).length (ns.map V.int).length (some 41) = min 41 (ns.map V.int).length := HT.sIx_nat _ _ 41
  rw [List.length_take, e1, e2]
  omega
theorem pm_snoc {T : List Int} {z : Int} (h : ∀ x ∈ T, x = 1 ∨ x = -1) (hz : z = 1 ∨ z = -1) : ∀ x ∈ T ++ [z], x = 1 ∨ x = -1 := fun x hx => by
  rcases List.mem_append.mp hx with h1 | h1
  · exact h x h1
  · rw [List.mem_singleton.mp h1]; exact hz
section
variable {P : Program} {w : World} {K : PySem.W.Frag} {mg : Str → Option Value} {base : Heap}
/-! ### law -/
abbrev sLaw : Stmt := topS 40
abbrev nLaw : List Str := ["_law_script", "_law_row_here", "_law_twists", "_law_crossings", "_law_ends", "_law_level", "_law_upright", "_law_way", "_law_rings", "_law_due", "_law_web", "_law_some", "_law_more", "_law_total", "_law_found", "_law_cell", "_law_k", "_law_joining", "_law_number", "_law_store"]
theorem scLaw : FnScope nLaw ["_law_script"] (defScope sLaw) := ⟨rfl, rfl, rfl, by decide +kernel, rfl, by decide +kernel, by decide +kernel⟩
/-- the calls of the law -/
structure LawCals (P : Program) (w : World) (K : PySem.W.Frag) (mg : Str → Option Value) (base : Heap) (k : Nat) : Prop where
  cell : Cal P w K mg base k "_law_cell_at" ["_law_script", "_law_k"] (spCellAt K)
  take : Cal P w K mg base k "_law_take" ["_law_row_here", "_law_base"] spTake
  row : Cal P w K mg base k "_law_row" ["_law_twists", "_law_row_here"] (spRow K)
  twisted : Cal P w K mg base k "_law_twisted" ["_law_level", "_law_upright", "_law_way"] spTwisted
  ringed : Cal P w K mg base k "_law_ringed" ["_law_numbers", "_law_rings"] spRinged
  poly : Cal P w K mg base k "_law_polynomial" ["_law_numbers"] (spPoly K)
  put : Cal P w K mg base k "_law_put" ["_law_numbers", "_law_more", "_law_lift", "_law_by"] spPut
  closed : Cal P w K mg base k "_law_closed" ["_law_crossings", "_law_ends", "_law_way"] (spClosed K)
  sums : Cal P w K mg base k "sums" ["web"] (spSums P w K)
  stores : Cal P w K mg base k "stores" ["web"] (spStores P w K)
def spLaw (K : PySem.W.Frag) : Sp := fun vs H Q _ => ∃ (a : Addr) (ns : List Int), vs = [.ref a] ∧ SqL K H a (ns.map V.int) ∧ ns.length ≤ 63 ∧ ∀ H', Q (.bl true) H'
theorem ok_law {f : Addr} {fd : FuncData} {k : Nat} (F : Fun K "law" "law" sLaw f fd) (G : LawCals P w K mg base k) (mr : mg "range" = none) (mn : mg "len" = none) (mt : mg "tuple" = none) (md : mg "dict" = none) (mi : mg "isinstance" = none) (LM : LawMath w) :
    FnOk P w K mg base CX0 (k + 1) f fd ["_law_script"] (spLaw K) := by
  refine F.ok scLaw (fun vs H Q E h => ?_) (fun cdv A outer s H vs Q E hr h => ?_)
  · obtain ⟨a, ns, rfl, _⟩ := h
    rfl
  · obtain ⟨a, ns, rfl, ha, hl, q⟩ := h
    have hu := hu64 hr
    refine ⟨_, pss_cons (ps_set (i := 1) scLaw.nd rfl (.inr rfl) (pe_lst (pa_cons (pe_cal G.cell hr (by rfl) (pa_cons (pv 0) (pa_cons pe_int pa_nil))) (pa_cons pe_int pa_nil))))
      (pss_cons (ps_setLc (i := 2) (own := [("_law_cell", 15)]) (g := gName 15) rfl scLaw.nd rfl rfl rfl (pi_list (pe_slice sl_list (pv 0) (po_some pe_int) (po_some pe_int)))
          (blkOk_by (own := [("_law_cell", 15)]) (N := nLaw) (sc := defScope sLaw) (by decide +kernel))
          (fun _ _ _ _ _ => pg_name (i := 15) scLaw.nd rfl (Or.inl rfl)) (fun _ _ _ _ _ => pts_nil)
          (fun _ _ _ _ _ => pe_ix (ix_listK K rfl) (pe_lst (pa_cons (pe_un un_neg pe_int) (pa_cons pe_int pa_nil))) (pe_op op_mod (pv 15) pe_int) (fun _ _ => rfl)))
      (pss_cons (ps_if (pt_cmpR op_eq (pe_cal G.take hr (by rfl) (pa_cons (pv 1) (pa_cons pe_int pa_nil))) pe_int (nomark _))
          (pss_one (ps_setLc (i := 2) (own := [("_law_k", 16)]) (g := gName 16) rfl scLaw.nd rfl rfl rfl (pi_range1 rfl mr (pa_cons (pe_cal G.take hr (by rfl) (pa_cons (pv 1) (pa_cons pe_int pa_nil))) pa_nil))
            (blkOk_by (own := [("_law_k", 16)]) (N := nLaw) (sc := defScope sLaw) (by decide +kernel))
            (fun _ _ _ _ _ => pg_name (i := 16) scLaw.nd rfl (Or.inl rfl)) (fun _ _ _ _ _ => pts_nil)
            (fun _ _ _ _ _ => pe_ix (ix_listK K rfl) (pe_lst (pa_cons (pe_un un_neg pe_int) (pa_cons pe_int pa_nil))) (pe_cal G.take hr (by rfl) (pa_cons (pv 1) (pa_cons pe_int pa_nil))) (fun _ _ => rfl)))) pss_nil)
      (pss_cons (ps_if (pt_cmpR op_eq (pe_cal G.take hr (by rfl) (pa_cons (pv 1) (pa_cons pe_int pa_nil))) pe_int (nomark _))
          (pss_one (ps_set (i := 2) scLaw.nd rfl (.inl rfl) (pe_op op_rep (pe_lst (pa_cons (pe_ix ix_list (pe_lst (pa_cons (pe_un un_neg pe_int) (pa_cons pe_int pa_nil))) (pe_cal G.take hr (by rfl) (pa_cons (pv 1) (pa_cons pe_int pa_nil))) (fun _ _ => rfl)) pa_nil)) (pe_callB call_len (by rfl) mn PySem.boot_len (pa_cons (pv 2) pa_nil))))) pss_nil)
      (pss_cons (ps_asg (pe_cal G.row hr (by rfl) (pa_cons (pv 2) (pa_cons (pv 1) pa_nil))) (pg_tup rfl (pgs_cons (pg_name (i := 3) scLaw.nd rfl (.inl rfl)) (pgs_cons (pg_name (i := 4) scLaw.nd rfl (.inl rfl)) pgs_nil))))
      (pss_cons (ps_par (i := 5) (j := 6) rfl scLaw.nd rfl rfl (by decide) rfl rfl (pa_cons (pe_disp (pps_cons pe_int pe_int pps_nil) rfl rfl (fun z => nomatch z) (by decide)) (pa_cons pe_dnewK pa_nil)) rfl)
      (pss_cons (ps_for PassesOwn.never rfl (pi_list (pv 2)) (pg_name (i := 7) scLaw.nd rfl (.inl rfl))
          (pss_one (ps_asg (pe_cal G.twisted hr (by rfl) (pa_cons (pv 5) (pa_cons (pv 6) (pa_cons (pv 7) pa_nil)))) (pg_tup rfl (pgs_cons (pg_name (i := 5) scLaw.nd rfl (.inl rfl)) (pgs_cons (pg_name (i := 6) scLaw.nd rfl (.inl rfl)) pgs_nil))))))
      (pss_cons (ps_set (i := 8) scLaw.nd rfl (.inl rfl) (pe_cal G.take hr (by rfl) (pa_cons (pv 1) (pa_cons pe_int pa_nil))))
      (pss_cons (ps_set (i := 7) scLaw.nd rfl (.inl rfl) (pe_cal G.take hr (by rfl) (pa_cons (pv 1) (pa_cons pe_int pa_nil))))
      (pss_cons (ps_set (i := 9) scLaw.nd rfl (.inl rfl) pe_snew)
      (pss_cons (ps_if (pt_cmpR op_eq (pv 7) pe_int (nomark _))
          (pss_cons (ps_set (i := 10) scLaw.nd rfl (.inl rfl) (pe_tup (pa_cons (pe_callTy call_tuple_of (by rfl) mt (by decide +kernel) (pa_cons (pv 3) pa_nil)) (pa_cons (pv 4) (pa_cons (pv 8) pa_nil)))))
          (pss_cons (ps_sput hu (pv 9) (pe_tup (pa_cons (pe_tup (pa_cons pe_int (pa_cons pe_int pa_nil))) (pa_cons (pe_tup (pa_cons pe_int (pa_cons pe_int pa_nil))) pa_nil))) (pe_cal G.poly hr (by rfl) (pa_cons (pe_cal G.ringed hr (by rfl) (pa_cons (pv 5) (pa_cons (pv 8) pa_nil))) pa_nil)) rfl)
          (pss_one (ps_sput hu (pv 9) (pe_tup (pa_cons (pe_tup (pa_cons pe_int (pa_cons pe_int pa_nil))) (pa_cons (pe_tup (pa_cons pe_int (pa_cons pe_int pa_nil))) pa_nil))) (pe_cal G.poly hr (by rfl) (pa_cons (pe_cal G.ringed hr (by rfl) (pa_cons (pv 6) (pa_cons (pv 8) pa_nil))) pa_nil)) rfl))))
          (pss_cons (ps_asg (pe_cal G.closed hr (by rfl) (pa_cons (pv 3) (pa_cons (pv 4) (pa_cons (pv 7) pa_nil)))) (pg_tup rfl (pgs_cons (pg_name (i := 11) scLaw.nd rfl (.inl rfl)) (pgs_cons (pg_name (i := 12) scLaw.nd rfl (.inl rfl)) pgs_nil))))
          (pss_cons (ps_set (i := 10) scLaw.nd rfl (.inl rfl) (pe_tup (pa_cons (pv 11) (pa_cons (pe_tup pa_nil) (pa_cons (pe_op op_add (pv 8) (pv 12)) pa_nil)))))
          (pss_cons (ps_set (i := 13) scLaw.nd rfl (.inl rfl) (pe_cal G.ringed hr (by rfl) (pa_cons (pv 5) (pa_cons (pe_op op_add (pe_op op_sub pe_int (pv 7)) (pv 8)) pa_nil))))
          (pss_cons (ps_expr (pe_cal G.put hr (by rfl) (pa_cons (pv 13) (pa_cons (pe_cal G.ringed hr (by rfl) (pa_cons (pv 6) (pa_cons (pe_op op_add (pe_op op_add pe_int (pv 7)) (pv 8)) pa_nil))) (pa_cons pe_int (pa_cons pe_int pa_nil))))))
          (pss_one (ps_sput hu (pv 9) (pe_tup pa_nil) (pe_cal G.poly hr (by rfl) (pa_cons (pv 13) pa_nil)) rfl)))))))
      (pss_cons (ps_set (i := 9) scLaw.nd rfl (.inl rfl) (pe_callTy (cr_spairs rfl hu) (by rfl) md (by decide +kernel) (pa_cons
          (pe_lock (pe_lc (own := [("_law_joining", 17), ("_law_total", 13)]) (g := gTup K 2 (gCons (gName 17) (gCons (gName 13) gNil))) rfl scLaw.nd (pi_sitems (pv 9))
            (blkOk_by (own := [("_law_joining", 17), ("_law_total", 13)]) (N := nLaw) (sc := defScope sLaw) (by decide +kernel))
            (fun _ _ _ _ _ => pg_tup rfl (pgs_cons (pg_name (i := 17) scLaw.nd rfl (Or.inl rfl)) (pgs_cons (pg_name (i := 13) scLaw.nd rfl (Or.inl rfl)) pgs_nil)))
            (fun _ _ _ _ _ => pts_one (pt_cmpR (op_nePlK K rfl hu) (pv 13) (pe_tup pa_nil) (nomark _)))
            (fun _ _ _ _ _ => pe_tup (pa_cons (pv 17) (pa_cons (pv 13) pa_nil))))) pa_nil)))
      (pss_cons (ps_set (i := 14) scLaw.nd rfl (.inl rfl) (pe_cal G.sums hr (by rfl) (pa_cons (pv 10) pa_nil)))
      (pss_cons (ps_if (PW.pt (pw_or (pt_not (pt_val (pe_callB cr_sis (by rfl) mi (by decide +kernel) (pa_cons (pv 14) (pa_cons (pe_bltn (v := V.ty "dict") (by rfl) md PyProof.Rows.boot_dict rfl) pa_nil))))) (pw_or1 (pt_cmpR (op_sne hu) (pv 14) (pv 9) (nomark _)))))
          (pss_one (ps_ret pe_bl)) pss_nil)
      (pss_one (ps_ret (pe_cmpR (op_eqD hu) (pe_lc (own := [("_law_number", 18), ("_law_store", 19)]) (g := gTup K 2 (gCons (gName 18) (gCons (gName 19) gNil))) rfl scLaw.nd (pi_list (pe_cal G.stores hr (by rfl) (pa_cons (pv 10) pa_nil)))
            (blkOk_by (own := [("_law_number", 18), ("_law_store", 19)]) (N := nLaw) (sc := defScope sLaw) (by decide +kernel))
            (fun _ _ _ _ _ => pg_tup rfl (pgs_cons (pg_name (i := 18) scLaw.nd rfl (Or.inl rfl)) (pgs_cons (pg_name (i := 19) scLaw.nd rfl (Or.inl rfl)) pgs_nil)))
            (fun _ _ _ _ _ => pts_one (pt_cmpR op_gt (pe_callB (cr_slenK P w K rfl rfl rfl) (by rfl) mn PySem.boot_len (pa_cons (pv 19) pa_nil)) pe_int (nomark _)))
            (fun _ _ _ _ _ => pv 19)) (pe_lst pa_nil) (nomark _))))))))))))))))), ?_⟩
    -- the row of numbers
    refine seq_mid (fun σ Hc => ∃ l, σ = [some (.ref a), some (.ref l), none, none, none, none, none, none, none, none, none, none, none, none, none, none, none, none, none, none] ∧ SqL K Hc a (ns.map V.int) ∧ RowAt Hc l 0) (fun σ Hc h => ?_) (fun N hN => ?_)
    rotate_left
    · refine ⟨.ref a, rfl, a, ns, rfl, ha, by omega, fun i0 => ?_⟩
      refine ⟨by show 2 ≤ sizeLine; decide, fun l nl => ?_⟩
      exact hN _ _ ⟨l, rfl, (Same.new nl).seq ha, i0, upd_same⟩
    obtain ⟨l, rfl, ha1, hl1⟩ := h
    clear ha
    -- the twists
    refine seq_mid (fun σ Hc => ∃ t T, σ = [some (.ref a), some (.ref l), some (.ref t), none, none, none, none, none, none, none, none, none, none, none, none, none, none, none, none, none] ∧ TwOk Hc l t 0 T) (fun σ Hc h => ?_) (fun N hN => ?_)
    rotate_left
    · refine ⟨.ref a, rfl, 1, rfl, 41, rfl, a, ns.map V.int, rfl, ha1, fun c nc => ?_⟩
      have s2 : Same Hc (upd Hc c (.lst (cutV (ns.map V.int) (some 1) (some 41)))) := Same.new nc
      have hc2 : (upd Hc c (.lst (cutV (ns.map V.int) (some 1) (some 41)))) c = some (.lst (cutV (ns.map V.int) (some 1) (some 41))) := upd_same
      have hl2 := hl1.same s2
      have h40 := cut_40 ns
      refine ⟨c, rfl, ⟨_, .inl (.inl hc2)⟩, fun D nD => lc_list (xs := cutV (ns.map V.int) (some 1) (some 41)) (fun i Hx => Same (upd Hc c (.lst (cutV (ns.map V.int) (some 1) (some 41)))) Hx ∧ ∃ T : List Int, Hx D = some (.lst (T.map V.int)) ∧ T.length = i ∧ ∀ x ∈ T, x = 1 ∨ x = -1) ⟨Same.new nD, [], upd_same, rfl, fun x hx => nomatch hx⟩ (fun i Hx hi p => .inl (.inl (p.1 _ _ hc2))) (fun i x Hx hxi p => ?_) (fun Hx p => ?_)⟩
      · obtain ⟨sx, T, hD, hTl, hT⟩ := p
        obtain ⟨v, rfl⟩ := cut_ints hxi
        have hi := (List.getElem?_eq_some_iff.mp hxi).1
        obtain ⟨z, hz, hat⟩ := pm_at (Int.emod_nonneg v (by decide : (2 : Int) ≠ 0)) (Int.emod_lt_of_pos v (by decide : (0 : Int) < 2))
        refine ⟨rfl, lcYes ⟨1, rfl, by show 2 ≤ sizeLine; decide, fun r nr => ?_⟩⟩
        have hD2 : upd Hx r (.lst [.int (-1), .int 1]) D = some (.lst (T.map V.int)) := by rw [upd_ne (ne_of_none hD nr)]; exact hD
        refine ⟨.int v, rfl, v, 2, rfl, rfl, (by decide : (0 : Int) < 2), r, _, v % 2, .int z, rfl, rfl, .inl (.inl upd_same), hat, _, hD2, ?_, Same.over (Same.over sx (sx.free nr)) nD, T ++ [z], ?_, ?_, pm_snoc hT hz⟩
        · rw [List.length_map]
          exact big5 (by omega)
        · rw [upd_same, List.map_append]
          rfl
        · rw [List.length_append, hTl]
          rfl
      · obtain ⟨sx, T, hD, hTl, hT⟩ := p
        refine hN _ _ ⟨D, T, rfl, hl2.same sx, hD, ?_, by omega, hT⟩
        intro z
        obtain ⟨s0, e0⟩ := hl2
        rw [z, e0] at nD
        cases nD
    obtain ⟨t, T, rfl, hT⟩ := h
    clear ha1 hl1 hl ns
    -- twists by the digits
    refine seq_mid (fun σ Hc => ∃ t n T, σ = [some (.ref a), some (.ref l), some (.ref t), none, none, none, none, none, none, none, none, none, none, none, none, none, none, none, none, none] ∧ TwOk Hc l t n T ∧ n ≤ 50) (fun σ Hc h => ?_) (fun N hN => ?_)
    rotate_left
    · refine ⟨.ref l, rfl, l, 0, 2, rfl, hT.1, by omega, by decide, by decide, fun v H3 sx3 r3 v0 v1 => ⟨rfl, _, rfl, ite2 (fun e => ?_) (fun e => ?_)⟩⟩
      · refine ⟨.ref l, rfl, l, _, 41, rfl, r3, by omega, by decide, by decide, fun v4 H4 sx4 r4 w0 w1 => ?_⟩
        obtain ⟨m, rfl⟩ : ∃ m : Nat, v4 = (m : Int) := ⟨v4.toNat, by omega⟩
        refine ⟨m, rfl, by omega, by omega, fun D nD => lc_range (n := m) (fun i Hx => RowAt Hx l (2 + i) ∧ D ≠ l ∧ ∃ T : List Int, Hx D = some (.lst (T.map V.int)) ∧ T.length = i ∧ ∀ x ∈ T, x = 1 ∨ x = -1) ?_ (fun i Hx hi p => ?_) (fun Hx p => ?_)⟩
        · refine ⟨r4.same (Same.new nD), fun z => ?_, [], upd_same, rfl, fun x hx => nomatch hx⟩
          obtain ⟨s0, e0⟩ := r4
          rw [z, e0] at nD
          cases nD
        · obtain ⟨hr5, nDl, T, hD, hTl, hT⟩ := p
          refine ⟨rfl, lcYes ⟨1, rfl, by show 2 ≤ sizeLine; decide, fun r nr => ?_⟩⟩
          have nrl : r ≠ l := fun z => by obtain ⟨s0, e0⟩ := hr5; rw [z, e0] at nr; cases nr
          have hD2 : upd Hx r (.lst [.int (-1), .int 1]) D = some (.lst (T.map V.int)) := by rw [upd_ne (ne_of_none hD nr)]; exact hD
          refine ⟨.ref l, rfl, l, _, 2, rfl, hr5.same (Same.new nr), by omega, by decide, by decide, fun v6 H6 sx6 r6 z0 z1 => ?_⟩
          obtain ⟨z, hz, hat⟩ := pm_at z0 z1
          have hr9 : H6 r = some (.lst [.int (-1), .int 1]) := sx6 _ _ nrl upd_same
          refine ⟨r, _, v6, .int z, rfl, rfl, .inl (.inl hr9), hat, _, sx6 _ _ nDl hD2, ?_, ?_, nDl, T ++ [z], ?_, ?_, pm_snoc hT hz⟩
          · rw [List.length_map]
            exact big5 (by omega)
          · obtain ⟨s0, e0⟩ := r6
            exact ⟨s0, by rw [upd_ne (Ne.symm nDl)]; exact e0⟩
          · rw [upd_same, List.map_append]
            rfl
          · rw [List.length_append, hTl]
            rfl
        · obtain ⟨hr5, nDl, T, hD, hTl, hT⟩ := p
          exact hN _ _ ⟨D, _, T, rfl, ⟨hr5, hD, nDl, by omega, hT⟩, by omega⟩
      · obtain ⟨h1, h2, h3, h4, h5⟩ := hT
        exact hN _ _ ⟨t, 1, T, rfl, ⟨r3, sx3 _ _ h3 h2, h3, h4, h5⟩, by omega⟩
    clear hT
    obtain ⟨t, n, T, rfl, hT, hn⟩ := h
    -- all alike
    refine seq_mid (fun σ Hc => ∃ t n T, σ = [some (.ref a), some (.ref l), some (.ref t), none, none, none, none, none, none, none, none, none, none, none, none, none, none, none, none, none] ∧ TwOk Hc l t n T ∧ n ≤ 60) (fun σ Hc h => ?_) (fun N hN => ?_)
    rotate_left
    · refine ⟨.ref l, rfl, l, n, 4, rfl, hT.1, by omega, by decide, by decide, fun v H3 sx3 r3 v0 v1 => ⟨rfl, _, rfl, ite2 (fun e => ?_) (fun e => ?_)⟩⟩
      · obtain ⟨h1, h2, h3, h4, h5⟩ := hT
        refine ⟨1, rfl, by show 2 ≤ sizeLine; decide, fun r nr => ?_⟩
        have nrl : r ≠ l := fun z => by obtain ⟨s0, e0⟩ := r3; rw [z, e0] at nr; cases nr
        have ht3 := sx3 _ _ h3 h2
        have nrt : r ≠ t := fun z => by rw [z, ht3] at nr; cases nr
        refine ⟨.ref l, rfl, l, _, 2, rfl, r3.same (Same.new nr), by omega, by decide, by decide, fun v6 H6 sx6 r6 z0 z1 => ?_⟩
        obtain ⟨z, hz, hat⟩ := pm_at z0 z1
        have hr9 : H6 r = some (.lst [.int (-1), .int 1]) := sx6 _ _ nrl upd_same
        have ht6 : H6 t = some (.lst (T.map V.int)) := sx6 _ _ h3 ((Same.new nr) _ _ ht3)
        refine ⟨r, _, v6, .int z, rfl, rfl, .inl (.inl hr9), hat, by show 1 ≤ sizeLine; decide, fun b nb => ?_⟩
        have nbl : b ≠ l := fun z => by obtain ⟨s0, e0⟩ := r6; rw [z, e0] at nb; cases nb
        have sb := Same.new (o := .lst [V.int z]) nb
        refine ⟨.ref t, rfl, .ref t, T.length, rfl, .inl ⟨_, .inl (.inl (sb _ _ ht6)), by rw [List.length_map]⟩, b, (T.length : Int), [.int z], rfl, rfl, upd_same, by omega, by omega, ?_, fun p np => ?_⟩
        · show 1 * (T.length : Int).toNat ≤ sizeLine
          exact Nat.le_of_lt (big5 (by omega))
        · have npl : p ≠ l := fun z => by obtain ⟨s0, e0⟩ := r6; rw [z, sb _ _ e0] at np; cases np
          refine hN _ _ ⟨p, _, List.replicate T.length z, rfl, ⟨(r6.same sb).same (Same.new np), ?_, npl, by rw [List.length_replicate]; exact h4, fun x hx => ?_⟩, by omega⟩
          · rw [upd_same, List.map_replicate]
            show some (HO.lst (List.replicate T.length [V.int z]).flatten) = _
            rw [List.flatten_replicate_singleton]
          · rw [List.eq_of_mem_replicate hx]
            exact hz
      · obtain ⟨h1, h2, h3, h4, h5⟩ := hT
        exact hN _ _ ⟨t, _, T, rfl, ⟨r3, sx3 _ _ h3 h2, h3, h4, h5⟩, by omega⟩
    clear hT
    obtain ⟨t, n, T, rfl, hT, hn⟩ := h
    -- the row
    refine seq_mid (fun σ Hc => ∃ lc te n p o lp cs, σ = [some (.ref a), some (.ref l), some (.ref t), some (.ref lc), some (.ref te), none, none, none, none, none, none, none, none, none, none, none, none, none, none, none] ∧ TwOk Hc l t n T ∧ n ≤ 200 ∧ (p = 101 ∨ p = 10007 ∨ p = 999999937) ∧ 0 ≤ o ∧ o < p ∧ 1 ≤ lp ∧ lp < p ∧
        RowsOk (arcsOf p o lp (2 * T.length + 2)) T T.length cs ∧ CsL K Hc lc cs ∧ Tp K Hc te ((endsOf (arcsOf p o lp (2 * T.length + 2)) T).map V.int)) (fun σ Hc h => ?_) (fun N hN => ?_)
    rotate_left
    · obtain ⟨h1, h2, h3, h4, h5⟩ := hT
      refine ⟨.ref t, rfl, .ref l, rfl, t, l, T, n, rfl, h3, .inl (.inl h2), h4, h1, by omega, fun tt lc te as cs p o lp H' sx hr hp o0 o1 l0 l1 htt hlc hcs hro hte => ?_⟩
      refine ⟨tt, _, rfl, .inl (.inl htt), rfl, _, _, rfl, _, _, rfl, rfl, ?_⟩
      exact hN _ _ ⟨lc, te, _, p, o, lp, cs, rfl, ⟨hr, sx _ _ h3 h2, h3, h4, h5⟩, by omega, hp, o0, o1, l0, l1, hro, ⟨as, hlc, hcs⟩, hte⟩
    clear hT hn n
    obtain ⟨lc, te, n, p, o, lp, cs, rfl, ⟨hrow, hT, htl, hT40, hTpm⟩, hn, hp, o0, o1, l0, l1, hro, hlc, hte⟩ := h
    have LMx := fun rings hr => LM T p o lp cs rings hTpm hT40 hp o0 o1 l0 l1 hr hro
    have hel : (endsOf (arcsOf p o lp (2 * T.length + 2)) T).length = 4 := rfl
    have hcl := hro.len
    have hc4 : ∀ c ∈ cs, c.length = 4 := by
      obtain ⟨ts, _, hp2⟩ := hro
      intro c hc
      obtain ⟨j, hj⟩ := List.getElem?_of_mem hc
      have hj1 := (List.getElem?_eq_some_iff.mp hj).1
      have hj2 : j < ts.length := by rw [Paired.len hp2]; exact hj1
      obtain ⟨c', h1, h2⟩ := paired_get hp2 (List.getElem?_eq_getElem hj2)
      have : c' = c := Option.some.inj (h1.symm.trans hj)
      subst this
      rcases h2 with rfl | rfl
      · exact xing_len _ _ _
      · rw [rot_len]; exact xing_len _ _ _
    generalize endsOf (arcsOf p o lp (2 * T.length + 2)) T = ends at LMx hel hte
    clear hro hp o0 o1 l0 l1
    -- the two rows of numbers
    refine seq_mid (fun σ Hc => ∃ d1 d2, σ = [some (.ref a), some (.ref l), some (.ref t), some (.ref lc), some (.ref te), some (.ref d1), some (.ref d2), none, none, none, none, none, none, none, none, none, none, none, none, none] ∧ RowAt Hc l n ∧ Hc t = some (.lst (T.map V.int)) ∧ CsL K Hc lc cs ∧ Tp K Hc te (ends.map V.int) ∧ Hc d1 = some (.dK (dm [(0, 1)])) ∧ Hc d2 = some (.dK (dm []))) (fun σ Hc h => ?_) (fun N hN => ?_)
    rotate_left
    · intro d1 n1
      refine ⟨upd_same, [(Sum.inl 0, .int 1)], rfl, by decide, ?_⟩
      have s1 := Same.over (o := .dK (mergeK [] [(Sum.inl 0, V.int 1)])) (Same.new (o := .dK []) n1) n1
      have h1 : (upd (upd Hc d1 (.dK [])) d1 (.dK (mergeK [] [(Sum.inl 0, V.int 1)]))) d1 = some (.dK (dm [(0, 1)])) := upd_same
      intro d2 n2
      have s2 := Same.new (o := .dK []) n2
      exact ⟨_, _, rfl, hN _ _ ⟨d1, d2, rfl, (hrow.same s1).same s2, s2 _ _ (s1 _ _ hT), (hlc.same s1).same s2, (hte.tk (TK.same s1)).tk (TK.same s2), s2 _ _ h1, upd_same⟩⟩
    clear hrow hT hlc hte
    obtain ⟨d1, d2, rfl, hrow, hT, hlc, hte, hd1, hd2⟩ := h
    refine seq_mid (fun σ Hc => ∃ d1 d2 y7, σ = [some (.ref a), some (.ref l), some (.ref t), some (.ref lc), some (.ref te), some (.ref d1), some (.ref d2), y7, none, none, none, none, none, none, none, none, none, none, none, none] ∧ RowAt Hc l n ∧ CsL K Hc lc cs ∧ Tp K Hc te (ends.map V.int) ∧ Hc d1 = some (.dK (dm (tw T).1)) ∧ Hc d2 = some (.dK (dm (tw T).2))) (fun σ Hc h => ?_) (fun N hN => ?_)
    rotate_left
    · refine ⟨.ref t, rfl, t, rfl, ⟨_, .inl (.inl hT)⟩, for_list (xs := T.map V.int) (fun i σ Hx => ∃ d1 d2 y7, σ = [some (.ref a), some (.ref l), some (.ref t), some (.ref lc), some (.ref te), some (.ref d1), some (.ref d2), y7, none, none, none, none, none, none, none, none, none, none, none, none] ∧ Same Hc Hx ∧ Hx d1 = some (.dK (dm (tw (T.take i)).1)) ∧ Hx d2 = some (.dK (dm (tw (T.take i)).2)))
        ⟨d1, d2, none, rfl, Same.refl Hc, hd1, hd2⟩ (fun i σ Hx hi pv => ?_) (fun i x σ Hx hxi pv => ?_) (fun σ Hx pv => ?_)⟩
      · obtain ⟨_, _, _, _, sx, _⟩ := pv
        exact .inl (.inl (sx _ _ hT))
      · obtain ⟨e1, e2, y7, rfl, sx, he1, he2⟩ := pv
        rw [List.getElem?_map] at hxi
        obtain ⟨v, hv, rfl⟩ := Option.map_eq_some_iff.mp hxi
        obtain ⟨z1, z2⟩ := tw_len (T.take i)
        rw [List.length_take] at z2
        have et : tw (T.take (i + 1)) = (twA (tw (T.take i)).1 v, twS (tw (T.take i)).1 (tw (T.take i)).2 v) := by rw [List.take_add_one, hv]; exact tw_snoc _ _
        refine ⟨.ref e1, rfl, .ref e2, rfl, .int v, rfl, e1, e2, _, _, v, rfl, he1, he2, by omega, by omega, fun tt p1 p2 H' s n1 n2 n12 htt h1 h2 => ?_⟩
        refine ⟨tt, _, rfl, .inl (.inl htt), rfl, _, _, rfl, _, _, rfl, rfl, ?_⟩
        refine ⟨p1, p2, _, rfl, sx.trans s, ?_, ?_⟩
        · rw [et]; exact h1
        · rw [et]; exact h2
      · obtain ⟨e1, e2, y7, rfl, sx, he1, he2⟩ := pv
        rw [List.length_map, List.take_length] at he1 he2
        exact hN _ _ ⟨e1, e2, y7, rfl, hrow.same sx, hlc.same sx, hte.tk (TK.same sx), he1, he2⟩
    clear hrow hT hlc hte hd1 hd2 d1 d2
    obtain ⟨d1, d2, y7, rfl, hrow, hlc, hte, hd1, hd2⟩ := h
    obtain ⟨lv1, lv2⟩ := tw_len T
    -- rings and way
    refine seq_mid (fun σ Hc => ∃ rings : Nat, rings ≤ 2 ∧ σ = [some (.ref a), some (.ref l), some (.ref t), some (.ref lc), some (.ref te), some (.ref d1), some (.ref d2), y7, some (.int (rings : Nat)), none, none, none, none, none, none, none, none, none, none, none] ∧ RowAt Hc l (n + 1) ∧ CsL K Hc lc cs ∧ Tp K Hc te (ends.map V.int) ∧ Hc d1 = some (.dK (dm (tw T).1)) ∧ Hc d2 = some (.dK (dm (tw T).2))) (fun σ Hc h => ?_) (fun N hN => ?_)
    rotate_left
    · refine ⟨.ref l, rfl, l, n, 3, rfl, hrow, by omega, by decide, by decide, fun v H' sx r' v0 v1 => ?_⟩
      have nd1 : d1 ≠ l := fun z => by obtain ⟨s0, e0⟩ := hrow; rw [z, e0] at hd1; cases hd1
      have nd2 : d2 ≠ l := fun z => by obtain ⟨s0, e0⟩ := hrow; rw [z, e0] at hd2; cases hd2
      have ev : v = (v.toNat : Int) := by omega
      exact hN _ _ ⟨v.toNat, by omega, by rw [← ev]; rfl, r', hlc.sameX hrow sx, hte.tk (RowAt.tk hrow sx), sx _ _ nd1 hd1, sx _ _ nd2 hd2⟩
    clear hrow hlc hte hd1 hd2
    obtain ⟨rings, hrg, rfl, hrow, hlc, hte, hd1, hd2⟩ := h
    refine seq_mid (fun σ Hc => ∃ way : Nat, way ≤ 2 ∧ σ = [some (.ref a), some (.ref l), some (.ref t), some (.ref lc), some (.ref te), some (.ref d1), some (.ref d2), some (.int (way : Nat)), some (.int (rings : Nat)), none, none, none, none, none, none, none, none, none, none, none] ∧ CsL K Hc lc cs ∧ Tp K Hc te (ends.map V.int) ∧ Hc d1 = some (.dK (dm (tw T).1)) ∧ Hc d2 = some (.dK (dm (tw T).2))) (fun σ Hc h => ?_) (fun N hN => ?_)
    rotate_left
    · refine ⟨.ref l, rfl, l, n + 1, 3, rfl, hrow, by omega, by decide, by decide, fun v H' sx r' v0 v1 => ?_⟩
      have nd1 : d1 ≠ l := fun z => by obtain ⟨s0, e0⟩ := hrow; rw [z, e0] at hd1; cases hd1
      have nd2 : d2 ≠ l := fun z => by obtain ⟨s0, e0⟩ := hrow; rw [z, e0] at hd2; cases hd2
      have ev : v = (v.toNat : Int) := by omega
      exact hN _ _ ⟨v.toNat, by omega, by rw [← ev]; rfl, hlc.sameX hrow sx, hte.tk (RowAt.tk hrow sx), sx _ _ nd1 hd1, sx _ _ nd2 hd2⟩
    clear hrow hlc hte hd1 hd2
    obtain ⟨way, hwy, rfl, hlc, hte, hd1, hd2⟩ := h
    refine seq_mid (fun σ Hc => ∃ dd, σ = [some (.ref a), some (.ref l), some (.ref t), some (.ref lc), some (.ref te), some (.ref d1), some (.ref d2), some (.int (way : Nat)), some (.int (rings : Nat)), some (.ref dd), none, none, none, none, none, none, none, none, none, none] ∧ CsL K Hc lc cs ∧ Tp K Hc te (ends.map V.int) ∧ Hc d1 = some (.dK (dm (tw T).1)) ∧ Hc d2 = some (.dK (dm (tw T).2)) ∧ Hc dd = some (SD P w dd [])) (fun σ Hc h => ?_) (fun N hN => ?_)
    rotate_left
    · intro dd nd
      have s1 : Same Hc (upd Hc dd (SD P w dd [])) := Same.new nd
      exact hN _ _ ⟨dd, rfl, hlc.same s1, hte.tk (TK.same s1), s1 _ _ hd1, s1 _ _ hd2, upd_same⟩
    clear hlc hte hd1 hd2
    obtain ⟨dd, rfl, hlc, hte, hd1, hd2, hdd⟩ := h
    -- the web and what is due
    refine seq_mid (fun σ Hc => ∃ y0 y1 y2 y3 y4 y5 y6 y7 y8 x y11 y12 y13 y14 y15 y16 y17 y18 y19 cs' ends' rings' due, σ = [y0, y1, y2, y3, y4, y5, y6, y7, y8, some (.ref dd), some x, y11, y12, y13, y14, y15, y16, y17, y18, y19] ∧
        WebAt K Hc x cs' ends' rings' ∧ rings' ≤ 4 ∧ ends'.length ≤ 100 ∧ Good w cs' ends' rings' due ∧ due.length ≤ 2 ∧ Sm P w K Hc dd due) (fun σ Hc h => ?_) (fun N hN => ?_)
    rotate_left
    · refine ⟨.int (way : Nat), rfl, rfl, _, rfl, ite2 (fun e => ?_) (fun e => ?_)⟩
      · have ew : way = 2 := by have := V.int.inj (of_decide_eq_true e); omega
        subst ew
        obtain ⟨as, hlc1, has⟩ := hlc
        refine ⟨.ref lc, rfl, lc, _, rfl, .inl ⟨.inl (.inl hlc1), fun tc ntc => ?_⟩⟩
        refine ⟨.ref te, rfl, .int (rings : Nat), rfl, by show 3 ≤ sizeLine; decide, fun x nx => ?_⟩
        have s1 := Same.new (o := .tup (as.map V.ref)) ntc
        have u2 := Same.new (o := .tup [.ref tc, .ref te, .int (rings : Nat)]) nx
        have s2 := s1.trans u2
        have hweb : WebAt K _ (.ref x) cs ends rings := ⟨x, tc, te, rfl, Tp.of upd_same, ⟨as, Tp.of (u2 _ _ upd_same), Paired.mapP has fun _ _ z => z.tk (TK.same s2)⟩, hte.tk (TK.same s2)⟩
        refine ⟨.ref d1, rfl, .int (rings : Nat), rfl, d1, _, rings, rfl, s2 _ _ hd1, by omega, by omega, fun p H3 s3 _ hp => ?_⟩
        have hl1 := lring_small (n := rings) (show (tw T).1.length ≤ 100 by omega) (by omega)
        refine ⟨p, _, rfl, hp, by omega, fun v H4 s4 hv => ⟨.ref dd, rfl, ?_⟩⟩
        refine ⟨by show 2 ≤ sizeLine; decide, fun k1 n1 => ⟨by show 2 ≤ sizeLine; decide, fun k2 n2 => ⟨by show 2 ≤ sizeLine; decide, fun kk nk => ?_⟩⟩⟩
        have hk := key_pl (K := K) (p := (0, 3)) (q := (1, 2)) n2 nk
        have s5 := ((Same.new (o := .tup [.int 0, .int 3]) n1).trans (Same.new (o := .tup [.int 1, .int 2]) n2)).trans (Same.new (o := .tup [.ref k1, .ref k2]) nk)
        have s24 := (s3.trans s4).trans s5
        have hdd5 := s24 _ _ (s2 _ _ hdd)
        refine ⟨dd, [], [], _, _, rfl, hdd5, .nil, by decide, hk, hv.tk (TK.same s5), fun ys sy => ?_⟩
        have nd2 : d2 ≠ dd := fun z => by rw [z, hdd] at hd2; cases hd2
        have hd26 : _ = some (HO.dK (dm (tw T).2)) := (upd_ne (o := SD P w dd ys) nd2).trans (s24 _ _ (s2 _ _ hd2))
        refine ⟨.ref d2, rfl, .int (rings : Nat), rfl, d2, _, rings, rfl, hd26, by omega, by omega, fun p H7 s7 _ hp => ?_⟩
        have hl2 := lring_small (n := rings) (show (tw T).2.length ≤ 100 by omega) (by omega)
        refine ⟨p, _, rfl, hp, by omega, fun v2 H8 s8 hv2 => ⟨.ref dd, rfl, ?_⟩⟩
        refine ⟨by show 2 ≤ sizeLine; decide, fun k3 n3 => ⟨by show 2 ≤ sizeLine; decide, fun k4 n4 => ⟨by show 2 ≤ sizeLine; decide, fun kk2 nk2 => ?_⟩⟩⟩
        have hk2 := key_pl (K := K) (p := (0, 1)) (q := (2, 3)) n4 nk2
        have s9 := ((Same.new (o := .tup [.int 0, .int 1]) n3).trans (Same.new (o := .tup [.int 2, .int 3]) n4)).trans (Same.new (o := .tup [.ref k3, .ref k4]) nk2)
        have s79 := (s7.trans s8).trans s9
        have hdd9 := s79 _ _ (upd_same (o := SD P w dd ys))
        refine ⟨dd, ys, _, _, _, rfl, hdd9, sy.tk (TK.same s79), big5 (by show 1 ≤ 1000000; decide), hk2, hv2.tk (TK.same s9), fun zs sz => ?_⟩
        have kw := ((TK.same s24).trans (TK.put (o := SD P w dd ys) hdd5 fun _ z => nomatch z)).trans ((TK.same s79).trans (TK.put (o := SD P w dd zs) hdd9 fun _ z => nomatch z))
        exact hN _ _ ⟨_, _, _, _, _, _, _, _, _, .ref x, _, _, _, _, _, _, _, _, _, cs, ends, rings, dueOpen T rings, rfl, hweb.tk kw, by omega, by omega, (LMx rings hrg).1, Nat.le_refl 2, zs, upd_same, sz⟩
      · have ew : way < 2 := by
          have : ¬ way = 2 := fun z => e (decide_eq_true (by rw [z]; rfl))
          omega
        obtain ⟨hm2, hgd⟩ := (LMx rings hrg).2 way ew
        refine ⟨.ref lc, rfl, .ref te, rfl, .int (way : Nat), rfl, lc, te, cs, ends, way, rfl, ew, hlc, by omega, hc4, hte, hel, fun tt tc H3 s3 htt htc => ?_⟩
        refine ⟨tt, _, rfl, .inl (.inl htt), rfl, _, _, rfl, _, _, rfl, rfl, ?_⟩
        generalize clStep (clStep (cs, pairsOf ends way, 0)) = S at htt htc hm2 hgd
        refine ⟨.ref tc, rfl, Nat.zero_le _, fun t0 nt0 => ?_⟩
        refine ⟨.int (rings : Nat), rfl, .int (S.2.2 : Nat), rfl, (rings : Int), (S.2.2 : Int), rfl, rfl, by show 3 ≤ sizeLine; decide, fun x nx => ?_⟩
        have u1 := Same.new (o := .tup []) nt0
        have u2 := Same.new (o := .tup [.ref tc, .ref t0, .int ((rings : Int) + (S.2.2 : Int))]) nx
        have s4 := (s3.trans u1).trans u2
        obtain ⟨as, hta, has⟩ := htc
        have hweb : WebAt K _ (.ref x) S.1 [] (rings + S.2.2) := ⟨x, tc, t0, rfl, by rw [Int.natCast_add]; exact Tp.of upd_same, ⟨as, hta.tk (TK.same (u1.trans u2)), Paired.mapP has fun _ _ z => z.tk (TK.same (u1.trans u2))⟩, (Tp.of upd_same).tk (TK.same u2)⟩
        -- the total
        have e1 : (2 : Int) - (way : Int) + (rings : Int) = ((2 - way + rings : Nat) : Int) := by omega
        have e2 : (1 : Int) + (way : Int) + (rings : Int) = ((1 + way + rings : Nat) : Int) := by omega
        refine ⟨.ref d1, rfl, .int (way : Nat), rfl, 2, (way : Int), rfl, rfl, .int (rings : Nat), rfl, _, (rings : Int), rfl, rfl, d1, (tw T).1, 2 - way + rings, (by rw [← e1]; rfl), s4 _ _ hd1, by omega, by omega, fun p1 H5 s5 nn1 hp1 => ?_⟩
        have s5' := s4.trans s5
        refine ⟨.ref p1, rfl, .ref d2, rfl, .int (way : Nat), rfl, 1, (way : Int), rfl, rfl, .int (rings : Nat), rfl, _, (rings : Int), rfl, rfl, d2, (tw T).2, 1 + way + rings, (by rw [← e2]; rfl), s5' _ _ hd2, by omega, by omega, fun p2 H6 s6 nn2 hp2 => ?_⟩
        have hn1 : 2 - way + rings ≠ 0 := by omega
        have hn2 : 1 + way + rings ≠ 0 := by omega
        have np2 := nn2 hn2
        have np1 := nn1 hn1
        have n12 : p1 ≠ p2 := fun z => by rw [z, np2] at hp1; cases hp1
        have hl1 := lring_small (n := 2 - way + rings) (show (tw T).1.length ≤ 100 by omega) (by omega)
        have hl2 := lring_small (n := 1 + way + rings) (show (tw T).2.length ≤ 100 by omega) (by omega)
        refine ⟨p1, p2, _, _, 0, 1, rfl, n12, s6 _ _ hp1, hp2, by omega, by omega, by decide, by decide, fun H7 sx7 hp7 => ?_⟩
        have hz := lput_count (lring (tw T).1 (2 - way + rings)) (lring (tw T).2 (1 + way + rings)) 0 1
        have hdd6 := s6 _ _ (s5' _ _ hdd)
        have ndp : dd ≠ p1 := fun z => by rw [z, s6 _ _ hp1] at hdd6; cases hdd6
        have k7 : TK H6 H7 := sx7.tk (s6 _ _ hp1) fun _ z => nomatch z
        refine ⟨.ref p1, rfl, p1, _, rfl, hp7, by omega, fun v H8 s8 hv => ⟨.ref dd, rfl, ?_⟩⟩
        refine ⟨Nat.zero_le _, fun kk nk => ?_⟩
        have s9 := Same.new (o := .tup []) nk
        have hdd9 := s9 _ _ (s8 _ _ (sx7 _ _ ndp hdd6))
        refine ⟨dd, [], [], _, _, rfl, hdd9, .nil, by decide, pl_nil, hv.tk (TK.same s9), fun ys sy => ?_⟩
        have kw := (((TK.same (s5.trans s6)).trans k7).trans (TK.same (s8.trans s9))).trans (TK.put (o := SD P w dd ys) hdd9 fun _ z => nomatch z)
        exact hN _ _ ⟨_, _, _, _, _, _, _, _, _, .ref x, _, _, _, _, _, _, _, _, _, S.1, [], rings + S.2.2, dueClosed T way rings, rfl, hweb.tk kw, by omega, Nat.zero_le _, hgd, (by show 1 ≤ 2; decide), ys, upd_same, sy⟩
    clear hlc hte hd1 hd2 hdd
    obtain ⟨y0, y1, y2, y3, y4, y5, y6, y7', y8, x, y11, y12, y13, y14, y15, y16, y17, y18, y19, cs', ends', rings', due, rfl, hweb, hr4, he4, hgood, hdl, hsm⟩ := h
    obtain ⟨hwok, hgood⟩ := hgood
    -- what is due, without noughts
    refine seq_mid (fun σ Hc => ∃ y0 y1 y2 y3 y4 y5 y6 y7 y8 y11 y12 y13 y14 y15 y16 y17 y18 y19 dd, σ = [y0, y1, y2, y3, y4, y5, y6, y7, y8, some (.ref dd), some x, y11, y12, y13, y14, y15, y16, y17, y18, y19] ∧ WebAt K Hc x cs' ends' rings' ∧ Sm P w K Hc dd (smerge [] (dueOf due))) (fun σ Hc h => ?_) (fun N hN => ?_)
    rotate_left
    · obtain ⟨xs, hd, sx⟩ := hsm
      have lx : xs.length = due.length := Paired.len sx
      refine ⟨dd, SD P w dd xs, hd, True.intro, fun od => ?_⟩
      refine ⟨.ref dd, rfl, dd, od, xs, rfl, upd_same, fun D nD => ?_⟩
      have ndD : dd ≠ D := ne_of_none upd_same nD
      have nDH : Hc D = none := by rw [upd_ne (Ne.symm ndD)] at nD; exact nD
      refine lc_s (fun i Hx => SameX dd Hc Hx ∧ Hx dd = some (.frz od (SD P w dd xs)) ∧ ∃ (ts : List Addr) (ys : SX), Hx D = some (.lst (ts.map V.ref)) ∧ Paired (fun t y => Tp K Hx t [.ref y.2.1, .ref y.2.2]) ts ys ∧ SXr K Hx ys (dueOf (due.take i)) ∧ ts.length ≤ i) ⟨fun b o nb e => ?_, ?_, [], [], upd_same, .nil, .nil, Nat.le_refl _⟩ (fun i Hx hi p => p.2.1) (fun i y Hx T2 hy p nT => ?_) (fun Hx p => ?_)
      · rw [upd_ne (ne_of_none e nDH), upd_ne nb]
        exact e
      · rw [upd_ne ndD, upd_same]
      · obtain ⟨sm, hdx, ts, ys, hD, hts, hys, hln⟩ := p
        obtain ⟨kv, hkv, e1, hJ, ht⟩ := paired_get sx hy
        have hi := (List.getElem?_eq_some_iff.mp hy).1
        have k1 : TK Hc (upd Hx T2 (.tup [.ref y.2.1, .ref y.2.2])) := (sm.tk hd (fun _ z => nomatch z)).trans (TK.new nT)
        have e3 : dueOf (due.take (i + 1)) = if kv.2 ≠ [] then dueOf (due.take i) ++ [kv] else dueOf (due.take i) := by
          unfold dueOf
          rw [List.take_add_one, hkv, List.filter_append]
          by_cases c : kv.2 ≠ []
          · rw [if_pos c]
            simp [List.filter_cons, c]
          · rw [if_neg c]
            simp [List.filter_cons, c]
        refine ⟨T2, _, rfl, .inl (.inl upd_same), rfl, _, _, rfl, _, _, rfl, rfl, rfl, ?_⟩
        refine ⟨.ref y.2.2, rfl, Nat.zero_le _, fun r nr => ?_⟩
        have k2 := k1.trans (TK.new (o := .tup []) nr)
        have s2 : Same Hx (upd (upd Hx T2 (.tup [.ref y.2.1, .ref y.2.2])) r (.tup [])) := (Same.new nT).trans (Same.new nr)
        refine ⟨kv.2, [], ht.tk k2, pl_nil, _, rfl, ite2 (fun e => ?_) (fun e => ?_)⟩
        · have ne : kv.2 ≠ [] := of_decide_eq_true e
          refine ⟨.ref y.2.1, rfl, .ref y.2.2, rfl, by show 2 ≤ sizeLine; decide, fun t nt => ⟨ts.map V.ref, ?_, ?_, ?_⟩⟩
          · rw [upd_ne (ne_of_none (s2 _ _ hD) nt)]
            exact s2 _ _ hD
          · rw [List.length_map]
            exact big5 (by omega)
          · have s3 := s2.trans (Same.new (o := .tup [.ref y.2.1, .ref y.2.2]) nt)
            have k4 := TK.put (o := .lst (ts.map V.ref ++ [.ref t])) (s3 _ _ hD) (fun _ z => nomatch z)
            refine ⟨fun b o nb eb => ?_, ?_, ts ++ [t], ys ++ [y], ?_, ?_, ?_, ?_⟩
            · rw [upd_ne (ne_of_none eb nDH)]
              exact s3 _ _ (sm b o nb eb)
            · rw [upd_ne ndD]
              exact s3 _ _ hdx
            · rw [upd_same, List.map_append]
              rfl
            · exact Paired.app (Paired.mapP hts fun _ _ z => (z.tk (TK.same s3)).tk k4) (.cons ((Tp.of upd_same).tk k4) .nil)
            · rw [e3, if_pos ne]
              exact Paired.app ((hys.tk (TK.same s3)).tk k4) (.cons ⟨e1, (hJ.tk k2).tk ((TK.new nt).trans k4), (ht.tk k2).tk ((TK.new nt).trans k4)⟩ .nil)
            · rw [List.length_append]
              show ts.length + 1 ≤ i + 1
              omega
        · have ne : ¬ kv.2 ≠ [] := fun z => e (decide_eq_true z)
          refine ⟨sm.trans (SameX.of s2), s2 _ _ hdx, ts, ys, s2 _ _ hD, Paired.mapP hts fun _ _ z => z.tk (TK.same s2), ?_, by omega⟩
          rw [e3, if_neg ne]
          exact hys.tk (TK.same s2)
      · obtain ⟨sm, hdx, ts, ys, hD, hts, hys, hln⟩ := p
        rw [lx, List.take_length] at hys
        refine ⟨hdx, ?_⟩
        have ku : TK Hx (upd Hx dd (SD P w dd xs)) := TK.put hdx fun _ z => nomatch z
        have kx : TK Hc Hx := sm.tk hd fun _ z => nomatch z
        have hD2 : (upd Hx dd (SD P w dd xs)) D = some (.lst (ts.map V.ref)) := by rw [upd_ne (Ne.symm ndD)]; exact hD
        refine ⟨D, ts, ys, _, rfl, hD2, Paired.mapP hts fun _ _ z => (z.tk ku).sq, hys.tk ku, fun p np => ?_⟩
        have s9 := Same.new (o := SD P w p (xmerge [] ys)) np
        exact hN _ _ ⟨_, _, _, _, _, _, _, _, _, _, _, _, _, _, _, _, _, _, p, rfl, (hweb.tk (kx.trans ku)).tk (TK.same s9), xmerge [] ys, upd_same, SXr.merge ((hys.tk ku).tk (TK.same s9)) .nil⟩
    clear hweb hsm hdl
    obtain ⟨y0, y1, y2, y3, y4, y5, y6, y7', y8, y11, y12, y13, y14, y15, y16, y17, y18, y19, dd, rfl, hweb, hsm⟩ := h
    -- the sums
    refine seq_mid (fun σ Hc => ∃ pf res, σ = [y0, y1, y2, y3, y4, y5, y6, y7', y8, some (.ref dd), some x, y11, y12, y13, some (.ref pf), y15, y16, y17, y18, y19] ∧ WebAt K Hc x cs' ends' rings' ∧ Sm P w K Hc dd (smerge [] (dueOf due)) ∧ Tak cs' [] (List.range cs'.length) res ∧ Sm P w K Hc pf (sumsOf (stAt cs' (res.map (·.1)) cs'.length) ends' rings')) (fun σ Hc h => ?_) (fun N hN => ?_)
    rotate_left
    · refine ⟨x, rfl, x, cs', ends', rings', rfl, hweb, hwok, he4, hr4, fun p H2 res s2 np ht hp => ?_⟩
      exact hN _ _ ⟨p, res, rfl, hweb.tk (TK.same s2), hsm.tk (TK.same s2) fun _ z => s2 _ _ z, ht, hp⟩
    clear hweb hsm
    obtain ⟨pf, res, rfl, hweb, hsm, htak, hpf⟩ := h
    obtain ⟨heq, _⟩ := hgood res htak
    -- are they those
    refine ⟨.ref pf, rfl, pf, _, rfl, hpf.r, true, rfl, ?_⟩
    show (if (!true) = true then _ else _)
    rw [if_neg (by decide)]
    refine ⟨.ref pf, rfl, .ref dd, rfl, pf, dd, _, _, rfl, rfl, hpf.r, hsm.r, _, rfl, ?_⟩
    rw [heq]
    show (if (!true) = true then _ else _)
    rw [if_neg (by decide)]
    -- the stores
    refine ⟨x, rfl, x, cs', ends', rings', rfl, hweb, hwok, fun p H2 res2 xs s2 np ht2 hp hxs => ?_⟩
    obtain ⟨_, h3⟩ := hgood res2 ht2
    have lxs : xs.length = cs'.length := by rw [Paired.len hxs, stEnts_len]
    refine ⟨p, rfl, ⟨_, .inl (.inl hp)⟩, fun D nD => lc_list (xs := xs) (fun i Hx => Same H2 Hx ∧ Hx D = some (.lst [])) ⟨Same.new nD, upd_same⟩ (fun i Hx hi p => .inl (.inl (p.1 _ _ hp))) (fun i x2 Hx hxi p => ?_) (fun Hx p => ?_)⟩
    · obtain ⟨sx, hD⟩ := p
      have hi : i < cs'.length := by
        have := (List.getElem?_eq_some_iff.mp hxi).1
        omega
      obtain ⟨en, hen, t2, d2, rfl, e1, h1⟩ := paired_get hxs hxi
      rw [stEnts_at hi] at hen
      cases hen
      have h3i := h3 i hi
      refine ⟨t2, _, rfl, .inl (.inl (sx _ _ e1)), rfl, _, _, rfl, _, _, rfl, rfl, rfl, ?_⟩
      refine ⟨.ref d2, rfl, d2, _, rfl, (h1.tk (TK.same sx) fun _ z => sx _ _ z).r, _, 3, rfl, rfl, _, rfl, ite2 (fun e => ?_) (fun e => ?_)⟩
      · exfalso
        have h4 : (3 : Int) < ((stAt cs' (res2.map (·.1)) (i + 1)).length : Int) := of_decide_eq_true e
        omega
      · exact ⟨sx, hD⟩
    · obtain ⟨sx, hD⟩ := p
      refine ⟨Nat.zero_le _, fun b nb => ?_⟩
      have hD2 := (Same.new (o := .lst []) nb) _ _ hD
      exact ⟨.list [], .list [], .lst (.inl (.inl hD2)) .nil, .lst (.inl (.inl upd_same)) .nil, rfl, rfl, q _⟩
end
end TH
end
section
set_option Elab.async false
set_option linter.all false
set_option maxRecDepth 100000
set_option maxHeartbeats 4000000
set_option pp.maxSteps 600
namespace TH
open PySem PySem.Spec PyProof.Rows L2
/-- a def of the text -/
def Df (K : PySem.W.Frag) (mg : Str → Option Value) (x : Str) (st : Stmt) (ps : List Str) : Prop := ∃ f fd, Fun K x x st f fd ∧ mg x = some (.ref f) ∧ Binds K fd ps []
theorem Df.cal {P : Program} {w : World} {K : PySem.W.Frag} {mg : Str → Option Value} {base : Heap} {k : Nat} {x : Str} {st : Stmt} {ps : List Str} {sp : Sp} (D : Df K mg x st ps) (h : ∀ f fd, Fun K x x st f fd → FnOk P w K mg base CX0 k f fd ps sp) : Cal P w K mg base k x ps sp :=
  let ⟨f, fd, F, g, b⟩ := D; ⟨f, fd, h f fd F, g, F.kp, b⟩
/-- all that the top has bound -/
structure Top (K : PySem.W.Frag) (mg : Str → Option Value) : Prop where
  d0 : Df K mg "gathered" sGathered ["terms"]
  d1 : Df K mg "plus" sPlus ["one", "other"]
  d2 : Df K mg "times" sTimes ["one", "other"]
  d3 : Df K mg "lifted" sLifted ["one", "many"]
  d4 : Df K mg "strung" sStrung ["strands", "one", "other"]
  d5 : Df K mg "opened_at" sOpenedAt ["strands", "crossing", "way"]
  d6 : Df K mg "joining_of" sJoiningOf ["ends", "strands"]
  d7 : Df K mg "with_rings" sWithRings ["total", "rings"]
  d8 : Df K mg "put_to" sPutTo ["sums", "joining", "total"]
  d9 : Df K mg "without_noughts" sNoN ["sums"]
  d10 : Df K mg "open_behind" sOpenBehind ["arcs", "crossing"]
  d11 : Df K mg "takings" sTakings ["web"]
  d12 : Df K mg "order_of" sOrderOf ["web"]
  d13 : Df K mg "check_narrow" sNarrow ["web"]
  d14 : Df K mg "strands_of" sStrandsOf ["joining"]
  d15 : Df K mg "open_joining" sOpenJoining ["strands"]
  d16 : Df K mg "store_behind" sBehind ["store", "crossing"]
  d17 : Df K mg "stores" sStores ["web"]
  d18 : Df K mg "sums" sSums ["web"]
  d19 : Df K mg "_law_cell_at" sCellAt ["_law_script", "_law_k"]
  d20 : Df K mg "_law_take" sTake ["_law_row_here", "_law_base"]
  d21 : Df K mg "_law_arcs" sArcs ["_law_row_here", "_law_many"]
  d22 : Df K mg "_law_put" sPut ["_law_numbers", "_law_more", "_law_lift", "_law_by"]
  d23 : Df K mg "_law_twisted" sTwisted ["_law_level", "_law_upright", "_law_way"]
  d24 : Df K mg "_law_ringed" sRinged ["_law_numbers", "_law_rings"]
  d25 : Df K mg "_law_polynomial" sPoly ["_law_numbers"]
  d26 : Df K mg "_law_row" sRow ["_law_twists", "_law_row_here"]
  d27 : Df K mg "_law_named" sNamed ["_law_things", "_law_old", "_law_new"]
  d28 : Df K mg "_law_closed" sClosed ["_law_crossings", "_law_ends", "_law_way"]
  law : ∃ f fd, Fun K "law" "law" sLaw f fd ∧ mg "law" = some (.ref f) ∧ ∀ (s : Shared) (v : Value), BindsTo s fd ⟨[v], []⟩ [("_law_script", v)]
  n_len : mg "len" = none
  n_min : mg "min" = none
  n_list : mg "list" = none
  n_range : mg "range" = none
  n_dict : mg "dict" = none
  n_sorted : mg "sorted" = none
  n_tuple : mg "tuple" = none
  n_enumerate : mg "enumerate" = none
  n_int : mg "int" = none
  n_isinstance : mg "isinstance" = none
  one : ∃ a, mg "ONE" = some (.ref a) ∧ ∀ H, Pl K H (.ref a) pONE
  ring : ∃ a, mg "RING" = some (.ref a) ∧ ∀ H, Pl K H (.ref a) pRING
  joins : ∃ a, mg "JOINS" = some (.ref a) ∧ JoinsAt K a
  most : ∃ z, mg "MOST_OPEN" = some (.int 8 z)
theorem law_of {P : Program} {w : World} {K : PySem.W.Frag} {mg : Str → Option Value} {base : Heap} (T : Top K mg) (LM : LawMath w) {f : Addr} {fd : FuncData} (F : Fun K "law" "law" sLaw f fd) : FnOk P w K mg base CX0 9 f fd ["_law_script"] (spLaw K) := by
  obtain ⟨aO, gO, hO⟩ := T.one
  obtain ⟨aR, gR, hR⟩ := T.ring
  obtain ⟨aJ, gJ, hJ⟩ := T.joins
  obtain ⟨z8, m8⟩ := T.most
  have cG : Cal P w K mg base 1 "gathered" ["terms"] (spGathered K) := T.d0.cal fun f fd F => ok_gathered F T.n_tuple T.n_sorted
  have cPlus : Cal P w K mg base 2 "plus" ["one", "other"] (spPlus K) := T.d1.cal fun f fd F => ok_plus F cG
  have cTimes : Cal P w K mg base 2 "times" ["one", "other"] (spTimes K) := T.d2.cal fun f fd F => ok_times F cG
  have cLift : Cal P w K mg base 1 "lifted" ["one", "many"] (spLifted K) := T.d3.cal fun f fd F => ok_lifted F T.n_tuple
  have cStrung : Cal P w K mg base 1 "strung" ["strands", "one", "other"] spStrung := T.d4.cal fun f fd F => ok_strung F
  have cOpen : Cal P w K mg base 2 "opened_at" ["strands", "crossing", "way"] (spOpenedAt K) := T.d5.cal fun f fd F => ok_openedAt F cStrung gJ hJ
  have cJoin : Cal P w K mg base 1 "joining_of" ["ends", "strands"] (spJoiningOf K) := T.d6.cal fun f fd F => ok_joiningOf F T.n_enumerate T.n_range T.n_len T.n_tuple
  have cWR : Cal P w K mg base 3 "with_rings" ["total", "rings"] (spWithRings K) := T.d7.cal fun f fd F => ok_withRings F cTimes T.n_range gR hR
  have cPut : Cal P w K mg base 3 "put_to" ["sums", "joining", "total"] (spPutTo P w K) := T.d8.cal fun f fd F => ok_putTo F cPlus
  have cNoN : Cal P w K mg base 1 "without_noughts" ["sums"] (spNoN P w K) := T.d9.cal fun f fd F => ok_noN F
  have cOB : Cal P w K mg base 1 "open_behind" ["arcs", "crossing"] (spOpenBehind K) := T.d10.cal fun f fd F => ok_openBehind F
  have cTak : Cal P w K mg base 2 "takings" ["web"] (spTakings K) := T.d11.cal fun f fd F => ok_takings F cOB T.n_list T.n_range T.n_len T.n_min
  have cOrd : Cal P w K mg base 3 "order_of" ["web"] (spOrderOf K) := T.d12.cal fun f fd F => ok_orderOf F cTak
  have cNar : Cal P w K mg base 3 "check_narrow" ["web"] (spNarrow K) := T.d13.cal fun f fd F => ok_narrow F cTak T.n_len m8
  have cSO : Cal P w K mg base 1 "strands_of" ["joining"] (spStrandsOf K) := T.d14.cal fun f fd F => ok_strandsOf F
  have cOJ : Cal P w K mg base 1 "open_joining" ["strands"] (spOpenJoining K) := T.d15.cal fun f fd F => ok_openJoining F T.n_tuple T.n_sorted
  have cBeh : Cal P w K mg base 4 "store_behind" ["store", "crossing"] (spBehind P w K) := T.d16.cal fun f fd F => ok_behind F T.n_range (cSO.mono (by decide)) (cOpen.mono (by decide)) cPut (cOJ.mono (by decide)) cWR (cLift.mono (by decide)) (cNoN.mono (by decide))
  have cSt : Cal P w K mg base 5 "stores" ["web"] (spStores P w K) := T.d17.cal fun f fd F => ok_stores F T.n_dict gO hO (cNar.mono (by decide)) (cOrd.mono (by decide)) cBeh
  have cSums : Cal P w K mg base 6 "sums" ["web"] (spSums P w K) := T.d18.cal fun f fd F => ok_sums F gO hO cSt (cPut.mono (by decide)) (cJoin.mono (by decide)) (cSO.mono (by decide)) (cWR.mono (by decide)) (cNoN.mono (by decide))
  have lCell : Cal P w K mg base 1 "_law_cell_at" ["_law_script", "_law_k"] (spCellAt K) := T.d19.cal fun f fd F => ok_cellAt F T.n_len
  have lTake : Cal P w K mg base 1 "_law_take" ["_law_row_here", "_law_base"] spTake := T.d20.cal fun f fd F => ok_take F
  have lArcs : Cal P w K mg base 2 "_law_arcs" ["_law_row_here", "_law_many"] spArcs := T.d21.cal fun f fd F => ok_arcs F lTake T.n_range
  have lPut : Cal P w K mg base 1 "_law_put" ["_law_numbers", "_law_more", "_law_lift", "_law_by"] spPut := T.d22.cal fun f fd F => ok_put F
  have lTw : Cal P w K mg base 2 "_law_twisted" ["_law_level", "_law_upright", "_law_way"] spTwisted := T.d23.cal fun f fd F => ok_twisted F lPut
  have lRing : Cal P w K mg base 2 "_law_ringed" ["_law_numbers", "_law_rings"] spRinged := T.d24.cal fun f fd F => ok_ringed F lPut T.n_range
  have lPoly : Cal P w K mg base 1 "_law_polynomial" ["_law_numbers"] (spPoly K) := T.d25.cal fun f fd F => ok_poly F T.n_tuple T.n_sorted
  have lRow : Cal P w K mg base 3 "_law_row" ["_law_twists", "_law_row_here"] (spRow K) := T.d26.cal fun f fd F => ok_row F (lTake.mono (by decide)) lArcs T.n_len T.n_enumerate
  have lNamed : Cal P w K mg base 1 "_law_named" ["_law_things", "_law_old", "_law_new"] (spNamed K) := T.d27.cal fun f fd F => ok_named F T.n_tuple T.n_int
  have lClosed : Cal P w K mg base 2 "_law_closed" ["_law_crossings", "_law_ends", "_law_way"] (spClosed K) := T.d28.cal fun f fd F => ok_closed F lNamed T.n_tuple T.n_len
  exact ok_law F ⟨(lCell.mono (by decide)), (lTake.mono (by decide)), (lRow.mono (by decide)), (lTw.mono (by decide)), (lRing.mono (by decide)), (lPoly.mono (by decide)), (lPut.mono (by decide)), (lClosed.mono (by decide)), (cSums.mono (by decide)), (cSt.mono (by decide))⟩ T.n_range T.n_len T.n_tuple T.n_dict T.n_isinstance LM
/-! ### what the top has written -/
theorem tp_K {K : PySem.W.Frag} {a : Addr} {od : Option Addr} {its : Array Value} {n : Nat} {sl : Array (Option Value)} {xs : List V} (l : K.lookup a = some ⟨.type "tuple", od, .seq its n, sl⟩) (hs : its.size ≤ sizeLine) (hv : Vals xs its.toList) : ∀ H, Tp K H a xs := fun H => by
  exact .inr ⟨_, _, _, l, rfl, rfl, hs, hv⟩
theorem law_mk {K : PySem.W.Frag} {mg : Str → Option Value} {h : Heap} {f : Addr} {od an : Option Addr} {sl : Array (Option Value)} {oc kV dc pm cd ct : Value} (X : K.In h) (G : h.Ns mainGlobals mg)
    (a : PySem.W.nsIn K mainGlobals "law" = some (some (.ref f))) (l : K.lookup f = some ⟨oc, od, .func (PySem.W.fnOf "law" "law" (defArgs sLaw) (defBody sLaw) (defScope sLaw) .none kV dc pm an cd ct), sl⟩) (c : PySem.W.codeIn K cd "law" = true) (k : PySem.W.keepIn K (.ref f) = true) :
    ∃ f fd, Fun K "law" "law" sLaw f fd ∧ mg "law" = some (.ref f) ∧ ∀ (s : Shared) (v : Value), BindsTo s fd ⟨[v], []⟩ [("_law_script", v)] :=
  ⟨f, _, fun_mk l c k, PySem.W.mg_of X G a, fun s v => .of_eq rfl⟩
theorem df_mk {K : PySem.W.Frag} {mg : Str → Option Value} {h : Heap} {x : Str} {st : Stmt} {ps : List Str} {f : Addr} {od an : Option Addr} {sl : Array (Option Value)} {oc kV dc pm cd ct : Value} (X : K.In h) (G : h.Ns mainGlobals mg)
    (a : PySem.W.nsIn K mainGlobals x = some (some (.ref f))) (l : K.lookup f = some ⟨oc, od, .func (PySem.W.fnOf x x (defArgs st) (defBody st) (defScope st) .none kV dc pm an cd ct), sl⟩) (c : PySem.W.codeIn K cd x = true) (k : PySem.W.keepIn K (.ref f) = true)
    (b : ∀ us : List Value, us.length = ps.length → bindArgs (PySem.W.fnOf x x (defArgs st) (defBody st) (defScope st) .none kV dc pm an cd ct) ⟨us, []⟩ = pure (ps.zip us)) : Df K mg x st ps :=
  ⟨f, _, fun_mk l c k, PySem.W.mg_of X G a, Binds.all b⟩
theorem pr_K {K : PySem.W.Frag} {a : Addr} {od : Option Addr} {n : Nat} {sl : Array (Option Value)} {i j : Int} {t u : Tok} (l : K.lookup a = some ⟨.type "tuple", od, .seq #[.int i t, .int j u] n, sl⟩) : ∀ H, Pr K H (.ref a) (i, j) := fun H =>
  ⟨a, rfl, tp_K (xs := [.int i, .int j]) l (by show 2 ≤ sizeLine; decide) (.cons ⟨t, rfl⟩ (.cons ⟨u, rfl⟩ .nil)) H⟩
theorem pl_K1 {K : PySem.W.Frag} {a b : Addr} {od od1 : Option Addr} {n n1 : Nat} {sl sl1 : Array (Option Value)} {i j : Int} {t u : Tok} (l : K.lookup a = some ⟨.type "tuple", od, .seq #[.ref b] n, sl⟩)
    (lb : K.lookup b = some ⟨.type "tuple", od1, .seq #[.int i t, .int j u] n1, sl1⟩) : ∀ H, Pl K H (.ref a) [(i, j)] := fun H => ⟨a, [.ref b], rfl, tp_K (xs := [.ref b]) l (by show 1 ≤ sizeLine; decide) (.cons rfl .nil) H, .cons (pr_K lb H) .nil⟩
theorem pl_K2 {K : PySem.W.Frag} {a b c : Addr} {od od1 od2 : Option Addr} {n n1 n2 : Nat} {sl sl1 sl2 : Array (Option Value)} {i j i2 j2 : Int} {t u t2 u2 : Tok} (l : K.lookup a = some ⟨.type "tuple", od, .seq #[.ref b, .ref c] n, sl⟩)
    (lb : K.lookup b = some ⟨.type "tuple", od1, .seq #[.int i t, .int j u] n1, sl1⟩) (lc : K.lookup c = some ⟨.type "tuple", od2, .seq #[.int i2 t2, .int j2 u2] n2, sl2⟩) : ∀ H, Pl K H (.ref a) [(i, j), (i2, j2)] := fun H =>
  ⟨a, [.ref b, .ref c], rfl, tp_K (xs := [.ref b, .ref c]) l (by show 2 ≤ sizeLine; decide) (.cons rfl (.cons rfl .nil)) H, .cons (pr_K lb H) (.cons (pr_K lc H) .nil)⟩
theorem one_mk {K : PySem.W.Frag} {mg : Str → Option Value} {h : Heap} {a b : Addr} {od od1 : Option Addr} {n n1 : Nat} {sl sl1 : Array (Option Value)} {t u : Tok} (X : K.In h) (G : h.Ns mainGlobals mg)
    (e : PySem.W.nsIn K mainGlobals "ONE" = some (some (.ref a))) (l : K.lookup a = some ⟨.type "tuple", od, .seq #[.ref b] n, sl⟩) (lb : K.lookup b = some ⟨.type "tuple", od1, .seq #[.int 0 t, .int 1 u] n1, sl1⟩) : ∃ a, mg "ONE" = some (.ref a) ∧ ∀ H, Pl K H (.ref a) pONE :=
  ⟨a, PySem.W.mg_of X G e, pl_K1 l lb⟩
theorem ring_mk {K : PySem.W.Frag} {mg : Str → Option Value} {h : Heap} {a b c : Addr} {od od1 od2 : Option Addr} {n n1 n2 : Nat} {sl sl1 sl2 : Array (Option Value)} {t u t2 u2 : Tok} (X : K.In h) (G : h.Ns mainGlobals mg)
    (e : PySem.W.nsIn K mainGlobals "RING" = some (some (.ref a))) (l : K.lookup a = some ⟨.type "tuple", od, .seq #[.ref b, .ref c] n, sl⟩) (lb : K.lookup b = some ⟨.type "tuple", od1, .seq #[.int (-2) t, .int (-1) u] n1, sl1⟩)
    (lc : K.lookup c = some ⟨.type "tuple", od2, .seq #[.int 2 t2, .int (-1) u2] n2, sl2⟩) : ∃ a, mg "RING" = some (.ref a) ∧ ∀ H, Pl K H (.ref a) pRING :=
  ⟨a, PySem.W.mg_of X G e, pl_K2 l lb lc⟩
theorem joins_mk {K : PySem.W.Frag} {mg : Str → Option Value} {h : Heap} {a b c b1 b2 c1 c2 : Addr} {od odb odc o1 o2 o3 o4 : Option Addr} {n nb nc n1 n2 n3 n4 : Nat} {sl slb slc s1 s2 s3 s4 : Array (Option Value)} {t1 t2 t3 t4 t5 t6 t7 t8 : Tok} (X : K.In h) (G : h.Ns mainGlobals mg)
    (e : PySem.W.nsIn K mainGlobals "JOINS" = some (some (.ref a))) (l : K.lookup a = some ⟨.type "tuple", od, .seq #[.ref b, .ref c] n, sl⟩)
    (lb : K.lookup b = some ⟨.type "tuple", odb, .seq #[.ref b1, .ref b2] nb, slb⟩) (lc : K.lookup c = some ⟨.type "tuple", odc, .seq #[.ref c1, .ref c2] nc, slc⟩)
    (l1 : K.lookup b1 = some ⟨.type "tuple", o1, .seq #[.int 0 t1, .int 1 t2] n1, s1⟩) (l2 : K.lookup b2 = some ⟨.type "tuple", o2, .seq #[.int 2 t3, .int 3 t4] n2, s2⟩)
    (l3 : K.lookup c1 = some ⟨.type "tuple", o3, .seq #[.int 0 t5, .int 3 t6] n3, s3⟩) (l4 : K.lookup c2 = some ⟨.type "tuple", o4, .seq #[.int 1 t7, .int 2 t8] n4, s4⟩) : ∃ a, mg "JOINS" = some (.ref a) ∧ JoinsAt K a :=
  ⟨a, PySem.W.mg_of X G e, b, c, tp_K (xs := [.ref b, .ref c]) l (by show 2 ≤ sizeLine; decide) (.cons rfl (.cons rfl .nil)), pl_K2 lb l1 l2, pl_K2 lc l3 l4⟩
theorem most_mk {K : PySem.W.Frag} {mg : Str → Option Value} {h : Heap} {z : Tok} (X : K.In h) (G : h.Ns mainGlobals mg) (e : PySem.W.nsIn K mainGlobals "MOST_OPEN" = some (some (.int 8 z))) : ∃ z, mg "MOST_OPEN" = some (.int 8 z) := ⟨z, PySem.W.mg_of X G e⟩
theorem all_mk {l : PySem.W.OpenLaw} {w : World} {K : PySem.W.Frag} {mg : Str → Option Value} {fa : Addr} (hfa : mg "law" = some (.ref fa)) (T : Top K mg) (LM : LawMath w) :
    ∃ fd : FuncData, (∀ (s : Shared) (v : Value), BindsTo s fd ⟨[v], []⟩ [("_law_script", v)]) ∧ ∀ base : Heap, K.In base → base.Ns mainGlobals mg → FnOk l.prog w K mg base CX0 9 fa fd ["_law_script"] (spLaw K) := by
  obtain ⟨f, fd, F, g, b⟩ := T.law
  have e := hfa.symm.trans g
  cases e
  exact ⟨fd, b, fun base _ _ => law_of T LM F⟩
end TH
end
section
set_option Elab.async false
set_option linter.all false
set_option maxRecDepth 100000
set_option maxHeartbeats 4000000
namespace TH
open PySem PySem.Spec PyProof.Rows L2
/-- all that the top has bound, put together -/
theorem top_mk {K : PySem.W.Frag} {mg : Str → Option Value} {h : Heap} (X : K.In h) (G : h.Ns mainGlobals mg)
    {f0 : Addr} {oc0 kV0 dc0 pm0 cd0 ct0 : Value} {od0 an0 : Option Addr} {sl0 : Array (Option Value)}
    {f1 : Addr} {oc1 kV1 dc1 pm1 cd1 ct1 : Value} {od1 an1 : Option Addr} {sl1 : Array (Option Value)}
    {f2 : Addr} {oc2 kV2 dc2 pm2 cd2 ct2 : Value} {od2 an2 : Option Addr} {sl2 : Array (Option Value)}
    {f3 : Addr} {oc3 kV3 dc3 pm3 cd3 ct3 : Value} {od3 an3 : Option Addr} {sl3 : Array (Option Value)}
    {f4 : Addr} {oc4 kV4 dc4 pm4 cd4 ct4 : Value} {od4 an4 : Option Addr} {sl4 : Array (Option Value)}
    {f5 : Addr} {oc5 kV5 dc5 pm5 cd5 ct5 : Value} {od5 an5 : Option Addr} {sl5 : Array (Option Value)}
    {f6 : Addr} {oc6 kV6 dc6 pm6 cd6 ct6 : Value} {od6 an6 : Option Addr} {sl6 : Array (Option Value)}
    {f7 : Addr} {oc7 kV7 dc7 pm7 cd7 ct7 : Value} {od7 an7 : Option Addr} {sl7 : Array (Option Value)}
    {f8 : Addr} {oc8 kV8 dc8 pm8 cd8 ct8 : Value} {od8 an8 : Option Addr} {sl8 : Array (Option Value)}
    {f9 : Addr} {oc9 kV9 dc9 pm9 cd9 ct9 : Value} {od9 an9 : Option Addr} {sl9 : Array (Option Value)}
    {f10 : Addr} {oc10 kV10 dc10 pm10 cd10 ct10 : Value} {od10 an10 : Option Addr} {sl10 : Array (Option Value)}
    {f11 : Addr} {oc11 kV11 dc11 pm11 cd11 ct11 : Value} {od11 an11 : Option Addr} {sl11 : Array (Option Value)}
    {f12 : Addr} {oc12 kV12 dc12 pm12 cd12 ct12 : Value} {od12 an12 : Option Addr} {sl12 : Array (Option Value)}
    {f13 : Addr} {oc13 kV13 dc13 pm13 cd13 ct13 : Value} {od13 an13 : Option Addr} {sl13 : Array (Option Value)}
    {f14 : Addr} {oc14 kV14 dc14 pm14 cd14 ct14 : Value} {od14 an14 : Option Addr} {sl14 : Array (Option Value)}
    {f15 : Addr} {oc15 kV15 dc15 pm15 cd15 ct15 : Value} {od15 an15 : Option Addr} {sl15 : Array (Option Value)}
    {f16 : Addr} {oc16 kV16 dc16 pm16 cd16 ct16 : Value} {od16 an16 : Option Addr} {sl16 : Array (Option Value)}
    {f17 : Addr} {oc17 kV17 dc17 pm17 cd17 ct17 : Value} {od17 an17 : Option Addr} {sl17 : Array (Option Value)}
    {f18 : Addr} {oc18 kV18 dc18 pm18 cd18 ct18 : Value} {od18 an18 : Option Addr} {sl18 : Array (Option Value)}
    {f19 : Addr} {oc19 kV19 dc19 pm19 cd19 ct19 : Value} {od19 an19 : Option Addr} {sl19 : Array (Option Value)}
    {f20 : Addr} {oc20 kV20 dc20 pm20 cd20 ct20 : Value} {od20 an20 : Option Addr} {sl20 : Array (Option Value)}
    {f21 : Addr} {oc21 kV21 dc21 pm21 cd21 ct21 : Value} {od21 an21 : Option Addr} {sl21 : Array (Option Value)}
    {f22 : Addr} {oc22 kV22 dc22 pm22 cd22 ct22 : Value} {od22 an22 : Option Addr} {sl22 : Array (Option Value)}
    {f23 : Addr} {oc23 kV23 dc23 pm23 cd23 ct23 : Value} {od23 an23 : Option Addr} {sl23 : Array (Option Value)}
    {f24 : Addr} {oc24 kV24 dc24 pm24 cd24 ct24 : Value} {od24 an24 : Option Addr} {sl24 : Array (Option Value)}
    {f25 : Addr} {oc25 kV25 dc25 pm25 cd25 ct25 : Value} {od25 an25 : Option Addr} {sl25 : Array (Option Value)}
    {f26 : Addr} {oc26 kV26 dc26 pm26 cd26 ct26 : Value} {od26 an26 : Option Addr} {sl26 : Array (Option Value)}
    {f27 : Addr} {oc27 kV27 dc27 pm27 cd27 ct27 : Value} {od27 an27 : Option Addr} {sl27 : Array (Option Value)}
    {f28 : Addr} {oc28 kV28 dc28 pm28 cd28 ct28 : Value} {od28 an28 : Option Addr} {sl28 : Array (Option Value)}
    {fL : Addr} {ocL kVL dcL pmL cdL ctL : Value} {odL anL : Option Addr} {slL : Array (Option Value)}
    (a0 : PySem.W.nsIn K mainGlobals "gathered" = some (some (.ref f0)))
    (l0 : K.lookup f0 = some ⟨oc0, od0, .func (PySem.W.fnOf "gathered" "gathered" (defArgs sGathered) (defBody sGathered) (defScope sGathered) .none kV0 dc0 pm0 an0 cd0 ct0), sl0⟩)
    (c0 : PySem.W.codeIn K cd0 "gathered" = true)
    (k0 : PySem.W.keepIn K (.ref f0) = true)
    (a1 : PySem.W.nsIn K mainGlobals "plus" = some (some (.ref f1)))
    (l1 : K.lookup f1 = some ⟨oc1, od1, .func (PySem.W.fnOf "plus" "plus" (defArgs sPlus) (defBody sPlus) (defScope sPlus) .none kV1 dc1 pm1 an1 cd1 ct1), sl1⟩)
    (c1 : PySem.W.codeIn K cd1 "plus" = true)
    (k1 : PySem.W.keepIn K (.ref f1) = true)
    (a2 : PySem.W.nsIn K mainGlobals "times" = some (some (.ref f2)))
    (l2 : K.lookup f2 = some ⟨oc2, od2, .func (PySem.W.fnOf "times" "times" (defArgs sTimes) (defBody sTimes) (defScope sTimes) .none kV2 dc2 pm2 an2 cd2 ct2), sl2⟩)
    (c2 : PySem.W.codeIn K cd2 "times" = true)
    (k2 : PySem.W.keepIn K (.ref f2) = true)
    (a3 : PySem.W.nsIn K mainGlobals "lifted" = some (some (.ref f3)))
    (l3 : K.lookup f3 = some ⟨oc3, od3, .func (PySem.W.fnOf "lifted" "lifted" (defArgs sLifted) (defBody sLifted) (defScope sLifted) .none kV3 dc3 pm3 an3 cd3 ct3), sl3⟩)
    (c3 : PySem.W.codeIn K cd3 "lifted" = true)
    (k3 : PySem.W.keepIn K (.ref f3) = true)
    (a4 : PySem.W.nsIn K mainGlobals "strung" = some (some (.ref f4)))
    (l4 : K.lookup f4 = some ⟨oc4, od4, .func (PySem.W.fnOf "strung" "strung" (defArgs sStrung) (defBody sStrung) (defScope sStrung) .none kV4 dc4 pm4 an4 cd4 ct4), sl4⟩)
    (c4 : PySem.W.codeIn K cd4 "strung" = true)
    (k4 : PySem.W.keepIn K (.ref f4) = true)
    (a5 : PySem.W.nsIn K mainGlobals "opened_at" = some (some (.ref f5)))
    (l5 : K.lookup f5 = some ⟨oc5, od5, .func (PySem.W.fnOf "opened_at" "opened_at" (defArgs sOpenedAt) (defBody sOpenedAt) (defScope sOpenedAt) .none kV5 dc5 pm5 an5 cd5 ct5), sl5⟩)
    (c5 : PySem.W.codeIn K cd5 "opened_at" = true)
    (k5 : PySem.W.keepIn K (.ref f5) = true)
    (a6 : PySem.W.nsIn K mainGlobals "joining_of" = some (some (.ref f6)))
    (l6 : K.lookup f6 = some ⟨oc6, od6, .func (PySem.W.fnOf "joining_of" "joining_of" (defArgs sJoiningOf) (defBody sJoiningOf) (defScope sJoiningOf) .none kV6 dc6 pm6 an6 cd6 ct6), sl6⟩)
    (c6 : PySem.W.codeIn K cd6 "joining_of" = true)
    (k6 : PySem.W.keepIn K (.ref f6) = true)
    (a7 : PySem.W.nsIn K mainGlobals "with_rings" = some (some (.ref f7)))
    (l7 : K.lookup f7 = some ⟨oc7, od7, .func (PySem.W.fnOf "with_rings" "with_rings" (defArgs sWithRings) (defBody sWithRings) (defScope sWithRings) .none kV7 dc7 pm7 an7 cd7 ct7), sl7⟩)
    (c7 : PySem.W.codeIn K cd7 "with_rings" = true)
    (k7 : PySem.W.keepIn K (.ref f7) = true)
    (a8 : PySem.W.nsIn K mainGlobals "put_to" = some (some (.ref f8)))
    (l8 : K.lookup f8 = some ⟨oc8, od8, .func (PySem.W.fnOf "put_to" "put_to" (defArgs sPutTo) (defBody sPutTo) (defScope sPutTo) .none kV8 dc8 pm8 an8 cd8 ct8), sl8⟩)
    (c8 : PySem.W.codeIn K cd8 "put_to" = true)
    (k8 : PySem.W.keepIn K (.ref f8) = true)
    (a9 : PySem.W.nsIn K mainGlobals "without_noughts" = some (some (.ref f9)))
    (l9 : K.lookup f9 = some ⟨oc9, od9, .func (PySem.W.fnOf "without_noughts" "without_noughts" (defArgs sNoN) (defBody sNoN) (defScope sNoN) .none kV9 dc9 pm9 an9 cd9 ct9), sl9⟩)
    (c9 : PySem.W.codeIn K cd9 "without_noughts" = true)
    (k9 : PySem.W.keepIn K (.ref f9) = true)
    (a10 : PySem.W.nsIn K mainGlobals "open_behind" = some (some (.ref f10)))
    (l10 : K.lookup f10 = some ⟨oc10, od10, .func (PySem.W.fnOf "open_behind" "open_behind" (defArgs sOpenBehind) (defBody sOpenBehind) (defScope sOpenBehind) .none kV10 dc10 pm10 an10 cd10 ct10), sl10⟩)
    (c10 : PySem.W.codeIn K cd10 "open_behind" = true)
    (k10 : PySem.W.keepIn K (.ref f10) = true)
    (a11 : PySem.W.nsIn K mainGlobals "takings" = some (some (.ref f11)))
    (l11 : K.lookup f11 = some ⟨oc11, od11, .func (PySem.W.fnOf "takings" "takings" (defArgs sTakings) (defBody sTakings) (defScope sTakings) .none kV11 dc11 pm11 an11 cd11 ct11), sl11⟩)
    (c11 : PySem.W.codeIn K cd11 "takings" = true)
    (k11 : PySem.W.keepIn K (.ref f11) = true)
    (a12 : PySem.W.nsIn K mainGlobals "order_of" = some (some (.ref f12)))
    (l12 : K.lookup f12 = some ⟨oc12, od12, .func (PySem.W.fnOf "order_of" "order_of" (defArgs sOrderOf) (defBody sOrderOf) (defScope sOrderOf) .none kV12 dc12 pm12 an12 cd12 ct12), sl12⟩)
    (c12 : PySem.W.codeIn K cd12 "order_of" = true)
    (k12 : PySem.W.keepIn K (.ref f12) = true)
    (a13 : PySem.W.nsIn K mainGlobals "check_narrow" = some (some (.ref f13)))
    (l13 : K.lookup f13 = some ⟨oc13, od13, .func (PySem.W.fnOf "check_narrow" "check_narrow" (defArgs sNarrow) (defBody sNarrow) (defScope sNarrow) .none kV13 dc13 pm13 an13 cd13 ct13), sl13⟩)
    (c13 : PySem.W.codeIn K cd13 "check_narrow" = true)
    (k13 : PySem.W.keepIn K (.ref f13) = true)
    (a14 : PySem.W.nsIn K mainGlobals "strands_of" = some (some (.ref f14)))
    (l14 : K.lookup f14 = some ⟨oc14, od14, .func (PySem.W.fnOf "strands_of" "strands_of" (defArgs sStrandsOf) (defBody sStrandsOf) (defScope sStrandsOf) .none kV14 dc14 pm14 an14 cd14 ct14), sl14⟩)
    (c14 : PySem.W.codeIn K cd14 "strands_of" = true)
    (k14 : PySem.W.keepIn K (.ref f14) = true)
    (a15 : PySem.W.nsIn K mainGlobals "open_joining" = some (some (.ref f15)))
    (l15 : K.lookup f15 = some ⟨oc15, od15, .func (PySem.W.fnOf "open_joining" "open_joining" (defArgs sOpenJoining) (defBody sOpenJoining) (defScope sOpenJoining) .none kV15 dc15 pm15 an15 cd15 ct15), sl15⟩)
    (c15 : PySem.W.codeIn K cd15 "open_joining" = true)
    (k15 : PySem.W.keepIn K (.ref f15) = true)
    (a16 : PySem.W.nsIn K mainGlobals "store_behind" = some (some (.ref f16)))
    (l16 : K.lookup f16 = some ⟨oc16, od16, .func (PySem.W.fnOf "store_behind" "store_behind" (defArgs sBehind) (defBody sBehind) (defScope sBehind) .none kV16 dc16 pm16 an16 cd16 ct16), sl16⟩)
    (c16 : PySem.W.codeIn K cd16 "store_behind" = true)
    (k16 : PySem.W.keepIn K (.ref f16) = true)
    (a17 : PySem.W.nsIn K mainGlobals "stores" = some (some (.ref f17)))
    (l17 : K.lookup f17 = some ⟨oc17, od17, .func (PySem.W.fnOf "stores" "stores" (defArgs sStores) (defBody sStores) (defScope sStores) .none kV17 dc17 pm17 an17 cd17 ct17), sl17⟩)
    (c17 : PySem.W.codeIn K cd17 "stores" = true)
    (k17 : PySem.W.keepIn K (.ref f17) = true)
    (a18 : PySem.W.nsIn K mainGlobals "sums" = some (some (.ref f18)))
    (l18 : K.lookup f18 = some ⟨oc18, od18, .func (PySem.W.fnOf "sums" "sums" (defArgs sSums) (defBody sSums) (defScope sSums) .none kV18 dc18 pm18 an18 cd18 ct18), sl18⟩)
    (c18 : PySem.W.codeIn K cd18 "sums" = true)
    (k18 : PySem.W.keepIn K (.ref f18) = true)
    (a19 : PySem.W.nsIn K mainGlobals "_law_cell_at" = some (some (.ref f19)))
    (l19 : K.lookup f19 = some ⟨oc19, od19, .func (PySem.W.fnOf "_law_cell_at" "_law_cell_at" (defArgs sCellAt) (defBody sCellAt) (defScope sCellAt) .none kV19 dc19 pm19 an19 cd19 ct19), sl19⟩)
    (c19 : PySem.W.codeIn K cd19 "_law_cell_at" = true)
    (k19 : PySem.W.keepIn K (.ref f19) = true)
    (a20 : PySem.W.nsIn K mainGlobals "_law_take" = some (some (.ref f20)))
    (l20 : K.lookup f20 = some ⟨oc20, od20, .func (PySem.W.fnOf "_law_take" "_law_take" (defArgs sTake) (defBody sTake) (defScope sTake) .none kV20 dc20 pm20 an20 cd20 ct20), sl20⟩)
    (c20 : PySem.W.codeIn K cd20 "_law_take" = true)
    (k20 : PySem.W.keepIn K (.ref f20) = true)
    (a21 : PySem.W.nsIn K mainGlobals "_law_arcs" = some (some (.ref f21)))
    (l21 : K.lookup f21 = some ⟨oc21, od21, .func (PySem.W.fnOf "_law_arcs" "_law_arcs" (defArgs sArcs) (defBody sArcs) (defScope sArcs) .none kV21 dc21 pm21 an21 cd21 ct21), sl21⟩)
    (c21 : PySem.W.codeIn K cd21 "_law_arcs" = true)
    (k21 : PySem.W.keepIn K (.ref f21) = true)
    (a22 : PySem.W.nsIn K mainGlobals "_law_put" = some (some (.ref f22)))
    (l22 : K.lookup f22 = some ⟨oc22, od22, .func (PySem.W.fnOf "_law_put" "_law_put" (defArgs sPut) (defBody sPut) (defScope sPut) .none kV22 dc22 pm22 an22 cd22 ct22), sl22⟩)
    (c22 : PySem.W.codeIn K cd22 "_law_put" = true)
    (k22 : PySem.W.keepIn K (.ref f22) = true)
    (a23 : PySem.W.nsIn K mainGlobals "_law_twisted" = some (some (.ref f23)))
    (l23 : K.lookup f23 = some ⟨oc23, od23, .func (PySem.W.fnOf "_law_twisted" "_law_twisted" (defArgs sTwisted) (defBody sTwisted) (defScope sTwisted) .none kV23 dc23 pm23 an23 cd23 ct23), sl23⟩)
    (c23 : PySem.W.codeIn K cd23 "_law_twisted" = true)
    (k23 : PySem.W.keepIn K (.ref f23) = true)
    (a24 : PySem.W.nsIn K mainGlobals "_law_ringed" = some (some (.ref f24)))
    (l24 : K.lookup f24 = some ⟨oc24, od24, .func (PySem.W.fnOf "_law_ringed" "_law_ringed" (defArgs sRinged) (defBody sRinged) (defScope sRinged) .none kV24 dc24 pm24 an24 cd24 ct24), sl24⟩)
    (c24 : PySem.W.codeIn K cd24 "_law_ringed" = true)
    (k24 : PySem.W.keepIn K (.ref f24) = true)
    (a25 : PySem.W.nsIn K mainGlobals "_law_polynomial" = some (some (.ref f25)))
    (l25 : K.lookup f25 = some ⟨oc25, od25, .func (PySem.W.fnOf "_law_polynomial" "_law_polynomial" (defArgs sPoly) (defBody sPoly) (defScope sPoly) .none kV25 dc25 pm25 an25 cd25 ct25), sl25⟩)
    (c25 : PySem.W.codeIn K cd25 "_law_polynomial" = true)
    (k25 : PySem.W.keepIn K (.ref f25) = true)
    (a26 : PySem.W.nsIn K mainGlobals "_law_row" = some (some (.ref f26)))
    (l26 : K.lookup f26 = some ⟨oc26, od26, .func (PySem.W.fnOf "_law_row" "_law_row" (defArgs sRow) (defBody sRow) (defScope sRow) .none kV26 dc26 pm26 an26 cd26 ct26), sl26⟩)
    (c26 : PySem.W.codeIn K cd26 "_law_row" = true)
    (k26 : PySem.W.keepIn K (.ref f26) = true)
    (a27 : PySem.W.nsIn K mainGlobals "_law_named" = some (some (.ref f27)))
    (l27 : K.lookup f27 = some ⟨oc27, od27, .func (PySem.W.fnOf "_law_named" "_law_named" (defArgs sNamed) (defBody sNamed) (defScope sNamed) .none kV27 dc27 pm27 an27 cd27 ct27), sl27⟩)
    (c27 : PySem.W.codeIn K cd27 "_law_named" = true)
    (k27 : PySem.W.keepIn K (.ref f27) = true)
    (a28 : PySem.W.nsIn K mainGlobals "_law_closed" = some (some (.ref f28)))
    (l28 : K.lookup f28 = some ⟨oc28, od28, .func (PySem.W.fnOf "_law_closed" "_law_closed" (defArgs sClosed) (defBody sClosed) (defScope sClosed) .none kV28 dc28 pm28 an28 cd28 ct28), sl28⟩)
    (c28 : PySem.W.codeIn K cd28 "_law_closed" = true)
    (k28 : PySem.W.keepIn K (.ref f28) = true)
    (aL : PySem.W.nsIn K mainGlobals "law" = some (some (.ref fL)))
    (lL : K.lookup fL = some ⟨ocL, odL, .func (PySem.W.fnOf "law" "law" (defArgs sLaw) (defBody sLaw) (defScope sLaw) .none kVL dcL pmL anL cdL ctL), slL⟩)
    (cL : PySem.W.codeIn K cdL "law" = true)
    (kL : PySem.W.keepIn K (.ref fL) = true)
    (z_len : PySem.W.nsIn K mainGlobals "len" = some none)
    (z_min : PySem.W.nsIn K mainGlobals "min" = some none)
    (z_list : PySem.W.nsIn K mainGlobals "list" = some none)
    (z_range : PySem.W.nsIn K mainGlobals "range" = some none)
    (z_dict : PySem.W.nsIn K mainGlobals "dict" = some none)
    (z_sorted : PySem.W.nsIn K mainGlobals "sorted" = some none)
    (z_tuple : PySem.W.nsIn K mainGlobals "tuple" = some none)
    (z_enumerate : PySem.W.nsIn K mainGlobals "enumerate" = some none)
    (z_int : PySem.W.nsIn K mainGlobals "int" = some none)
    (z_isinstance : PySem.W.nsIn K mainGlobals "isinstance" = some none)
    {o0 o1 r0 r1 r2 j0 j1 j2 j3 j4 j5 j6 : Addr} {ot1 ot2 rt1 rt2 rt3 rt4 jt1 jt2 jt3 jt4 jt5 jt6 jt7 jt8 z8 : Tok}
    {o0d : Option Addr} {o0n : Nat} {o0s : Array (Option Value)}
    {o1d : Option Addr} {o1n : Nat} {o1s : Array (Option Value)}
    {r0d : Option Addr} {r0n : Nat} {r0s : Array (Option Value)}
    {r1d : Option Addr} {r1n : Nat} {r1s : Array (Option Value)}
    {r2d : Option Addr} {r2n : Nat} {r2s : Array (Option Value)}
    {j0d : Option Addr} {j0n : Nat} {j0s : Array (Option Value)}
    {j1d : Option Addr} {j1n : Nat} {j1s : Array (Option Value)}
    {j2d : Option Addr} {j2n : Nat} {j2s : Array (Option Value)}
    {j3d : Option Addr} {j3n : Nat} {j3s : Array (Option Value)}
    {j4d : Option Addr} {j4n : Nat} {j4s : Array (Option Value)}
    {j5d : Option Addr} {j5n : Nat} {j5s : Array (Option Value)}
    {j6d : Option Addr} {j6n : Nat} {j6s : Array (Option Value)}
    (eO : PySem.W.nsIn K mainGlobals "ONE" = some (some (.ref o0)))
    (eO0 : K.lookup o0 = some ⟨.type "tuple", o0d, .seq #[.ref o1] o0n, o0s⟩)
    (eO1 : K.lookup o1 = some ⟨.type "tuple", o1d, .seq #[.int 0 ot1, .int 1 ot2] o1n, o1s⟩)
    (eR : PySem.W.nsIn K mainGlobals "RING" = some (some (.ref r0)))
    (eR0 : K.lookup r0 = some ⟨.type "tuple", r0d, .seq #[.ref r1, .ref r2] r0n, r0s⟩)
    (eR1 : K.lookup r1 = some ⟨.type "tuple", r1d, .seq #[.int (-2) rt1, .int (-1) rt2] r1n, r1s⟩)
    (eR2 : K.lookup r2 = some ⟨.type "tuple", r2d, .seq #[.int 2 rt3, .int (-1) rt4] r2n, r2s⟩)
    (eJ : PySem.W.nsIn K mainGlobals "JOINS" = some (some (.ref j0)))
    (eJ0 : K.lookup j0 = some ⟨.type "tuple", j0d, .seq #[.ref j1, .ref j2] j0n, j0s⟩)
    (eJ1 : K.lookup j1 = some ⟨.type "tuple", j1d, .seq #[.ref j3, .ref j4] j1n, j1s⟩)
    (eJ2 : K.lookup j2 = some ⟨.type "tuple", j2d, .seq #[.ref j5, .ref j6] j2n, j2s⟩)
    (eJ3 : K.lookup j3 = some ⟨.type "tuple", j3d, .seq #[.int 0 jt1, .int 1 jt2] j3n, j3s⟩)
    (eJ4 : K.lookup j4 = some ⟨.type "tuple", j4d, .seq #[.int 2 jt3, .int 3 jt4] j4n, j4s⟩)
    (eJ5 : K.lookup j5 = some ⟨.type "tuple", j5d, .seq #[.int 0 jt5, .int 3 jt6] j5n, j5s⟩)
    (eJ6 : K.lookup j6 = some ⟨.type "tuple", j6d, .seq #[.int 1 jt7, .int 2 jt8] j6n, j6s⟩)
    (eM : PySem.W.nsIn K mainGlobals "MOST_OPEN" = some (some (.int 8 z8)))
    : Top K mg :=
  {
    d0 := df_mk (ps := ["terms"]) X G a0 l0 c0 k0 (fun us hl => match us, hl with | [_], _ => rfl)
    d1 := df_mk (ps := ["one", "other"]) X G a1 l1 c1 k1 (fun us hl => match us, hl with | [_, _], _ => rfl)
    d2 := df_mk (ps := ["one", "other"]) X G a2 l2 c2 k2 (fun us hl => match us, hl with | [_, _], _ => rfl)
    d3 := df_mk (ps := ["one", "many"]) X G a3 l3 c3 k3 (fun us hl => match us, hl with | [_, _], _ => rfl)
    d4 := df_mk (ps := ["strands", "one", "other"]) X G a4 l4 c4 k4 (fun us hl => match us, hl with | [_, _, _], _ => rfl)
    d5 := df_mk (ps := ["strands", "crossing", "way"]) X G a5 l5 c5 k5 (fun us hl => match us, hl with | [_, _, _], _ => rfl)
    d6 := df_mk (ps := ["ends", "strands"]) X G a6 l6 c6 k6 (fun us hl => match us, hl with | [_, _], _ => rfl)
    d7 := df_mk (ps := ["total", "rings"]) X G a7 l7 c7 k7 (fun us hl => match us, hl with | [_, _], _ => rfl)
    d8 := df_mk (ps := ["sums", "joining", "total"]) X G a8 l8 c8 k8 (fun us hl => match us, hl with | [_, _, _], _ => rfl)
    d9 := df_mk (ps := ["sums"]) X G a9 l9 c9 k9 (fun us hl => match us, hl with | [_], _ => rfl)
    d10 := df_mk (ps := ["arcs", "crossing"]) X G a10 l10 c10 k10 (fun us hl => match us, hl with | [_, _], _ => rfl)
    d11 := df_mk (ps := ["web"]) X G a11 l11 c11 k11 (fun us hl => match us, hl with | [_], _ => rfl)
    d12 := df_mk (ps := ["web"]) X G a12 l12 c12 k12 (fun us hl => match us, hl with | [_], _ => rfl)
    d13 := df_mk (ps := ["web"]) X G a13 l13 c13 k13 (fun us hl => match us, hl with | [_], _ => rfl)
    d14 := df_mk (ps := ["joining"]) X G a14 l14 c14 k14 (fun us hl => match us, hl with | [_], _ => rfl)
    d15 := df_mk (ps := ["strands"]) X G a15 l15 c15 k15 (fun us hl => match us, hl with | [_], _ => rfl)
    d16 := df_mk (ps := ["store", "crossing"]) X G a16 l16 c16 k16 (fun us hl => match us, hl with | [_, _], _ => rfl)
    d17 := df_mk (ps := ["web"]) X G a17 l17 c17 k17 (fun us hl => match us, hl with | [_], _ => rfl)
    d18 := df_mk (ps := ["web"]) X G a18 l18 c18 k18 (fun us hl => match us, hl with | [_], _ => rfl)
    d19 := df_mk (ps := ["_law_script", "_law_k"]) X G a19 l19 c19 k19 (fun us hl => match us, hl with | [_, _], _ => rfl)
    d20 := df_mk (ps := ["_law_row_here", "_law_base"]) X G a20 l20 c20 k20 (fun us hl => match us, hl with | [_, _], _ => rfl)
    d21 := df_mk (ps := ["_law_row_here", "_law_many"]) X G a21 l21 c21 k21 (fun us hl => match us, hl with | [_, _], _ => rfl)
    d22 := df_mk (ps := ["_law_numbers", "_law_more", "_law_lift", "_law_by"]) X G a22 l22 c22 k22 (fun us hl => match us, hl with | [_, _, _, _], _ => rfl)
    d23 := df_mk (ps := ["_law_level", "_law_upright", "_law_way"]) X G a23 l23 c23 k23 (fun us hl => match us, hl with | [_, _, _], _ => rfl)
    d24 := df_mk (ps := ["_law_numbers", "_law_rings"]) X G a24 l24 c24 k24 (fun us hl => match us, hl with | [_, _], _ => rfl)
    d25 := df_mk (ps := ["_law_numbers"]) X G a25 l25 c25 k25 (fun us hl => match us, hl with | [_], _ => rfl)
    d26 := df_mk (ps := ["_law_twists", "_law_row_here"]) X G a26 l26 c26 k26 (fun us hl => match us, hl with | [_, _], _ => rfl)
    d27 := df_mk (ps := ["_law_things", "_law_old", "_law_new"]) X G a27 l27 c27 k27 (fun us hl => match us, hl with | [_, _, _], _ => rfl)
    d28 := df_mk (ps := ["_law_crossings", "_law_ends", "_law_way"]) X G a28 l28 c28 k28 (fun us hl => match us, hl with | [_, _, _], _ => rfl)
    law := law_mk X G aL lL cL kL
    n_len := PySem.W.mg_none_of X G z_len
    n_min := PySem.W.mg_none_of X G z_min
    n_list := PySem.W.mg_none_of X G z_list
    n_range := PySem.W.mg_none_of X G z_range
    n_dict := PySem.W.mg_none_of X G z_dict
    n_sorted := PySem.W.mg_none_of X G z_sorted
    n_tuple := PySem.W.mg_none_of X G z_tuple
    n_enumerate := PySem.W.mg_none_of X G z_enumerate
    n_int := PySem.W.mg_none_of X G z_int
    n_isinstance := PySem.W.mg_none_of X G z_isinstance
    one := one_mk X G eO eO0 eO1
    ring := ring_mk X G eR eR0 eR1 eR2
    joins := joins_mk X G eJ eJ0 eJ1 eJ2 eJ3 eJ4 eJ5 eJ6
    most := most_mk X G eM }
end TH
end
section
set_option Elab.async false
set_option linter.all false
/-! polynomials by their coefficients -/
namespace TH
def cf (t : PL) (k : Int) : Int := (t.map fun e => if e.1 = k then e.2 else 0).sum
def dg (d : PL) (k : Int) : Int := (dv d k).getD 0
def KN (d : PL) : Prop := (d.map (·.1)).Nodup
theorem cf_nil (k : Int) : cf [] k = 0 := rfl
theorem cf_cons (e : Int × Int) (t : PL) (k : Int) : cf (e :: t) k = (if e.1 = k then e.2 else 0) + cf t k := by
  unfold cf; rw [List.map_cons, List.sum_cons]
theorem cf_app (a b : PL) (k : Int) : cf (a ++ b) k = cf a k + cf b k := by
  induction a with
  | nil => rw [List.nil_append, cf_nil, Int.zero_add]
  | cons e a ih => rw [List.cons_append, cf_cons, cf_cons, ih, Int.add_assoc]
theorem cf_lifted (a : PL) (m k : Int) : cf (lifted a m) k = cf a (k - m) := by
  unfold lifted
  induction a with
  | nil => rfl
  | cons e a ih =>
    rw [List.map_cons, cf_cons, cf_cons, ih]
    by_cases h : e.1 = k - m
    · rw [if_pos h, if_pos (by show e.1 + m = k; omega)]
    · rw [if_neg h, if_neg (by show ¬ e.1 + m = k; omega)]
/-! dicts of whole numbers -/
theorem dv_cons (e : Int × Int) (d : PL) (k : Int) : dv (e :: d) k = if e.1 = k then some e.2 else dv d k := by
  unfold dv
  rw [List.find?_cons]
  by_cases h : e.1 = k
  · rw [if_pos h, decide_eq_true h]; rfl
  · rw [if_neg h, decide_eq_false h]
theorem dv_none {d : PL} {k : Int} : dv d k = none ↔ k ∉ d.map (·.1) := by
  induction d with
  | nil => exact ⟨fun _ h => (nomatch h), fun _ => rfl⟩
  | cons e d ih =>
    rw [dv_cons, List.map_cons, List.mem_cons]
    by_cases h : e.1 = k
    · rw [if_pos h]
      exact ⟨fun z => (nomatch z), fun z => absurd (Or.inl h.symm) z⟩
    · rw [if_neg h, ih]
      exact ⟨fun z y => y.elim (fun q => h q.symm) z, fun z y => z (Or.inr y)⟩
theorem dv_app (a b : PL) (k : Int) : dv (a ++ b) k = (dv a k).or (dv b k) := by
  induction a with
  | nil => rfl
  | cons e a ih =>
    rw [List.cons_append, dv_cons, dv_cons, ih]
    split <;> rfl
theorem dv_map (d : PL) (k v j : Int) : dv (d.map fun p => if p.1 = k then (p.1, v) else p) j = if j = k then (dv d j).map fun _ => v else dv d j := by
  induction d with
  | nil => split <;> rfl
  | cons e d ih =>
    rw [List.map_cons, dv_cons, dv_cons, ih]
    by_cases h : e.1 = k
    · rw [if_pos h]
      by_cases h2 : e.1 = j
      · rw [if_pos h2, if_pos h2, if_pos (h2.symm.trans h)]; rfl
      · rw [if_neg h2, if_neg h2]
    · rw [if_neg h]
      by_cases h2 : e.1 = j
      · rw [if_pos h2, if_pos h2, if_neg (fun z => h (h2.trans z))]
      · rw [if_neg h2, if_neg h2]
theorem dp_any (d : PL) (k : Int) : ((d.any fun p => decide (p.1 = k)) = true) ↔ k ∈ d.map (·.1) := by
  rw [List.any_eq_true, List.mem_map]
  exact ⟨fun ⟨p, h1, h2⟩ => ⟨p, h1, of_decide_eq_true h2⟩, fun ⟨p, h1, h2⟩ => ⟨p, h1, decide_eq_true h2⟩⟩
theorem dv_dp (d : PL) (k v j : Int) : dv (dp d k v) j = if j = k then some v else dv d j := by
  unfold dp
  by_cases h : (d.any fun p => decide (p.1 = k)) = true
  · rw [if_pos h, dv_map]
    by_cases e : j = k
    · rw [if_pos e, if_pos e, e]
      cases z : dv d k with
      | none => exact absurd ((dp_any d k).mp h) (dv_none.mp z)
      | some u => rfl
    · rw [if_neg e, if_neg e]
  · rw [if_neg h, dv_app]
    have hn : dv d k = none := dv_none.mpr fun z => h ((dp_any d k).mpr z)
    by_cases e : j = k
    · rw [if_pos e, e, hn]
      show dv [(k, v)] k = some v
      rw [dv_cons, if_pos rfl]
    · rw [if_neg e]
      have : dv [(k, v)] j = none := by rw [dv_cons, if_neg (fun z => e z.symm)]; rfl
      rw [this]
      cases dv d j <;> rfl
theorem dp_keys (d : PL) (k v : Int) : (dp d k v).map (·.1) = if k ∈ d.map (·.1) then d.map (·.1) else d.map (·.1) ++ [k] := by
  unfold dp
  by_cases h : k ∈ d.map (·.1)
  · rw [if_pos ((dp_any d k).mpr h), if_pos h, List.map_map]
    refine List.map_congr_left fun p _ => ?_
    show (if p.1 = k then (p.1, v) else p).1 = p.1
    split <;> rfl
  · rw [if_neg (fun z => h ((dp_any d k).mp z)), if_neg h, List.map_append]
    rfl
theorem KN.dp {d : PL} (h : KN d) (k v : Int) : KN (dp d k v) := by
  unfold KN at h ⊢
  rw [dp_keys]
  by_cases m : k ∈ d.map (·.1)
  · rw [if_pos m]; exact h
  · rw [if_neg m]
    exact List.nodup_append.mpr ⟨h, by simp, fun x hx y hy => by
      rw [List.mem_singleton.mp hy]
      exact fun z => m (z ▸ hx)⟩
theorem KN.nil : KN [] := List.nodup_nil
theorem dg_dp (d : PL) (k v j : Int) : dg (dp d k v) j = if j = k then v else dg d j := by
  unfold dg
  rw [dv_dp]
  split <;> rfl
theorem dg_gstep (d : PL) (t : Int × Int) (k : Int) : dg (gstep d t) k = dg d k + if t.1 = k then t.2 else 0 := by
  unfold gstep
  rw [dg_dp]
  by_cases h : t.1 = k
  · rw [if_pos h, if_pos h.symm, h]; rfl
  · rw [if_neg h, if_neg (fun z => h z.symm), Int.add_zero]
theorem dg_fold (ts : PL) (k : Int) : ∀ d, dg (ts.foldl gstep d) k = dg d k + cf ts k := by
  induction ts with
  | nil => intro d; rw [List.foldl_nil, cf_nil, Int.add_zero]
  | cons t ts ih =>
    intro d
    rw [List.foldl_cons, ih, dg_gstep, cf_cons, Int.add_assoc]
theorem dg_gdict (ts : PL) (k : Int) : dg (gdict ts) k = cf ts k := by
  unfold gdict
  rw [dg_fold]
  show 0 + _ = _
  rw [Int.zero_add]
theorem KN.fold : ∀ (ts d : PL), KN d → KN (ts.foldl gstep d)
  | [], d, h => h
  | t :: ts, d, h => KN.fold ts _ (KN.dp h _ _)
theorem KN.gdict (ts : PL) : KN (gdict ts) := KN.fold ts [] KN.nil
/-- polynomials as they should be -/
def Can (t : PL) : Prop := t.Pairwise (fun a b => a.1 < b.1) ∧ ∀ e ∈ t, e.2 ≠ 0
theorem gfin_cons (d : PL) (k : Int) (ks : List Int) : gfin d (k :: ks) = if dg d k ≠ 0 then (k, dg d k) :: gfin d ks else gfin d ks := by
  unfold gfin
  rw [List.map_cons, List.filter_cons]
  by_cases h : dg d k ≠ 0
  · rw [if_pos h]
    have h2 : decide ((k, (dv d k).getD 0).2 ≠ 0) = true := decide_eq_true h
    rw [if_pos h2]
    rfl
  · rw [if_neg h]
    have h2 : ¬ decide ((k, (dv d k).getD 0).2 ≠ 0) = true := fun z => h (of_decide_eq_true z)
    rw [if_neg h2]
theorem gfin_mem {d : PL} {ks : List Int} {e : Int × Int} (h : e ∈ gfin d ks) : e.1 ∈ ks ∧ e.2 = dg d e.1 ∧ e.2 ≠ 0 := by
  unfold gfin at h
  obtain ⟨h1, h2⟩ := List.mem_filter.mp h
  obtain ⟨k, hk, rfl⟩ := List.mem_map.mp h1
  exact ⟨hk, rfl, of_decide_eq_true h2⟩
theorem gfin_can {d : PL} {ks : List Int} (h : ks.Pairwise (· < ·)) : Can (gfin d ks) := by
  refine ⟨?_, fun e he => (gfin_mem he).2.2⟩
  unfold gfin
  refine List.Pairwise.filter _ ?_
  rw [List.pairwise_map]
  exact h
theorem cf_gfin {d : PL} {k : Int} : ∀ {ks : List Int}, ks.Nodup → cf (gfin d ks) k = if k ∈ ks then dg d k else 0
  | [], _ => rfl
  | j :: ks, h => by
    have ih := cf_gfin (d := d) (k := k) (List.nodup_cons.mp h).2
    have hj := (List.nodup_cons.mp h).1
    rw [gfin_cons]
    by_cases e : k = j
    · subst e
      rw [if_pos List.mem_cons_self]
      rw [if_neg hj] at ih
      by_cases z : dg d k ≠ 0
      · rw [if_pos z, cf_cons, if_pos rfl, ih, Int.add_zero]
      · rw [if_neg z, ih]
        exact (Decidable.not_not.mp z).symm
    · have m : (k ∈ j :: ks) ↔ k ∈ ks := by simp [e]
      have : cf (if dg d j ≠ 0 then (j, dg d j) :: gfin d ks else gfin d ks) k = cf (gfin d ks) k := by
        split
        · rw [cf_cons, if_neg (fun z => e z.symm), Int.zero_add]
        · rfl
      rw [this, ih]
      by_cases q : k ∈ ks
      · rw [if_pos q, if_pos (m.mpr q)]
      · rw [if_neg q, if_neg (fun z => q (m.mp z))]
theorem sortI_lt {l : List Int} (h : l.Nodup) : (sortI l).Pairwise (· < ·) := by
  have h1 := sortI_sorted l
  have h2 : (sortI l).Nodup := (sortI_perm l).nodup_iff.mpr h
  have h3 := h1.and h2
  exact h3.imp fun ⟨a, b⟩ => by omega
theorem lt_nodup {l : List Int} (h : l.Pairwise (· < ·)) : l.Nodup := h.imp fun a => by omega
theorem cf_fin {d : PL} (h : KN d) (k : Int) : cf (gfin d (sortI (d.map (·.1)))) k = dg d k := by
  rw [cf_gfin (lt_nodup (sortI_lt h))]
  by_cases m : k ∈ sortI (d.map (·.1))
  · rw [if_pos m]
  · rw [if_neg m]
    have : dv d k = none := dv_none.mpr fun z => m ((sortI_perm _).mem_iff.mpr z)
    unfold dg
    rw [this]
    rfl
theorem can_fin {d : PL} (h : KN d) : Can (gfin d (sortI (d.map (·.1)))) := gfin_can (sortI_lt h)
theorem can_gathered (ts : PL) : Can (gathered ts) := can_fin (KN.gdict ts)
theorem cf_gathered (ts : PL) (k : Int) : cf (gathered ts) k = cf ts k := by
  unfold gathered
  rw [cf_fin (KN.gdict ts), dg_gdict]
theorem can_plus (a b : PL) : Can (plus a b) := can_gathered _
theorem cf_plus (a b : PL) (k : Int) : cf (plus a b) k = cf a k + cf b k := by
  unfold plus
  rw [cf_gathered, cf_app]
theorem cf_ring (a : PL) (k : Int) : cf (times a pRING) k = -cf a (k - 2) - cf a (k + 2) := by
  unfold times
  rw [cf_gathered]
  induction a with
  | nil => rfl
  | cons e a ih =>
    rw [List.flatMap_cons, cf_app, ih]
    show cf [(e.1 + -2, e.2 * -1), (e.1 + 2, e.2 * -1)] k + _ = _
    rw [cf_cons, cf_cons, cf_nil, cf_cons, cf_cons]
    have h1 : (e.1 + -2 = k) ↔ e.1 = k + 2 := by omega
    have h2 : (e.1 + 2 = k) ↔ e.1 = k - 2 := by omega
    show (if e.1 + -2 = k then e.2 * -1 else 0) + ((if e.1 + 2 = k then e.2 * -1 else 0) + 0) + _ = _
    by_cases c1 : e.1 = k + 2
    · rw [if_pos (h1.mpr c1), if_pos c1]
      by_cases c2 : e.1 = k - 2
      · rw [if_pos (h2.mpr c2), if_pos c2]; omega
      · rw [if_neg (fun z => c2 (h2.mp z)), if_neg c2]; omega
    · rw [if_neg (fun z => c1 (h1.mp z)), if_neg c1]
      by_cases c2 : e.1 = k - 2
      · rw [if_pos (h2.mpr c2), if_pos c2]; omega
      · rw [if_neg (fun z => c2 (h2.mp z)), if_neg c2]; omega
/-- a ring, on coefficients -/
def dl (f : Int → Int) : Int → Int := fun k => -f (k - 2) - f (k + 2)
def dls (f : Int → Int) : Nat → Int → Int
  | 0 => f
  | n + 1 => dl (dls f n)
theorem cf_withRings (t : PL) : ∀ n, cf (withRings t n) = dls (cf t) n
  | 0 => rfl
  | n + 1 => by
    funext k
    show cf (times (withRings t n) pRING) k = dl (dls (cf t) n) k
    rw [cf_ring, cf_withRings t n]
    rfl
/-! polynomials are told by their coefficients -/
theorem cf_zero {t : PL} {k : Int} (h : ∀ e ∈ t, e.1 ≠ k) : cf t k = 0 := by
  induction t with
  | nil => rfl
  | cons e t ih =>
    rw [cf_cons, if_neg (h e List.mem_cons_self), ih fun x hx => h x (List.mem_cons_of_mem _ hx)]
    rfl
theorem Can.tail {e : Int × Int} {t : PL} (h : Can (e :: t)) : Can t := ⟨(List.pairwise_cons.mp h.1).2, fun x hx => h.2 x (List.mem_cons_of_mem _ hx)⟩
theorem Can.head {e : Int × Int} {t : PL} (h : Can (e :: t)) : ∀ x ∈ t, e.1 < x.1 := (List.pairwise_cons.mp h.1).1
theorem Can.cf_head {e : Int × Int} {t : PL} (h : Can (e :: t)) : cf (e :: t) e.1 = e.2 := by
  rw [cf_cons, if_pos rfl, cf_zero fun x hx => by have := h.head x hx; omega, Int.add_zero]
theorem can_eq : ∀ {a b : PL}, Can a → Can b → (∀ k, cf a k = cf b k) → a = b
  | [], [], _, _, _ => rfl
  | [], e :: b, _, hb, h => by
    have := h e.1
    rw [hb.cf_head, cf_nil] at this
    exact absurd this.symm (hb.2 e List.mem_cons_self)
  | e :: a, [], ha, _, h => by
    have := h e.1
    rw [ha.cf_head, cf_nil] at this
    exact absurd this (ha.2 e List.mem_cons_self)
  | e :: a, e' :: b, ha, hb, h => by
    have n1 := ha.2 e List.mem_cons_self
    have n2 := hb.2 e' List.mem_cons_self
    have ek : e.1 = e'.1 := by
      rcases Int.lt_trichotomy e.1 e'.1 with z | z | z
      · exfalso
        have := h e.1
        rw [ha.cf_head, cf_zero (t := e' :: b) fun x hx => by
          rcases List.mem_cons.mp hx with y | y
          · rw [y]; omega
          · have := hb.head x y; omega] at this
        exact n1 this
      · exact z
      · exfalso
        have := h e'.1
        rw [hb.cf_head, cf_zero (t := e :: a) fun x hx => by
          rcases List.mem_cons.mp hx with y | y
          · rw [y]; omega
          · have := ha.head x y; omega] at this
        exact n2 this.symm
    have ev : e.2 = e'.2 := by
      have := h e.1
      rw [ha.cf_head, ek, hb.cf_head] at this
      exact this
    have ee : e = e' := Prod.ext ek ev
    subst ee
    rw [can_eq ha.tail hb.tail fun k => by
      have := h k
      rw [cf_cons, cf_cons] at this
      omega]
theorem can_nil_of {t : PL} (h : Can t) (z : ∀ k, cf t k = 0) : t = [] := can_eq h ⟨List.Pairwise.nil, fun e he => nomatch he⟩ fun k => by rw [z k, cf_nil]
theorem can_nil : Can [] := ⟨List.Pairwise.nil, fun e he => nomatch he⟩
theorem can_mem {t : PL} (h : Can t) {e : Int × Int} (he : e ∈ t) : cf t e.1 = e.2 := by
  induction t with
  | nil => exact nomatch he
  | cons x t ih =>
    rcases List.mem_cons.mp he with y | y
    · rw [y]; exact h.cf_head
    · have := h.head e y
      rw [cf_cons, if_neg (by omega), Int.zero_add]
      exact ih h.tail y
theorem sorted_len {lo hi : Int} : ∀ {l : PL}, l.Pairwise (fun a b => a.1 < b.1) → (∀ e ∈ l, lo ≤ e.1 ∧ e.1 ≤ hi) → (l.length : Int) ≤ max 0 (hi - lo + 1)
  | [], _, _ => by show (0 : Int) ≤ _; omega
  | e :: l, h, b => by
    have h1 := b e List.mem_cons_self
    have ih := sorted_len (lo := e.1 + 1) (hi := hi) (List.pairwise_cons.mp h).2 fun x hx => ⟨by have := (List.pairwise_cons.mp h).1 x hx; omega, (b x (List.mem_cons_of_mem _ hx)).2⟩
    rw [List.length_cons]
    omega
/-- no coefficient beyond B -/
def Sup (B : Nat) (f : Int → Int) : Prop := ∀ k : Int, (B : Int) < k ∨ k < -(B : Int) → f k = 0
theorem can_len {t : PL} {B : Nat} (h : Can t) (s : Sup B (cf t)) : t.length ≤ 2 * B + 1 := by
  have := sorted_len (lo := -(B : Int)) (hi := B) h.1 fun e he => by
    have h1 := can_mem h he
    have h2 := h.2 e he
    rcases Decidable.em ((B : Int) < e.1 ∨ e.1 < -(B : Int)) with z | z
    · rw [s _ z] at h1
      exact absurd h1.symm h2
    · omega
  omega
theorem Sup.dl {B : Nat} {f : Int → Int} (h : Sup B f) : Sup (B + 2) (dl f) := fun k hk => by
  unfold TH.dl
  rw [h (k - 2) (by omega), h (k + 2) (by omega)]
  rfl
theorem Sup.mono {B C : Nat} {f : Int → Int} (h : Sup B f) (l : B ≤ C) : Sup C f := fun k hk => h k (by omega)
end TH
end
section
set_option Elab.async false
set_option linter.all false
namespace TH
/-! stores by their coefficients -/
def sc (f : List (PL × PL)) (J : PL) : Int → Int := cf ((sgt f J).getD [])
def Wf (f : List (PL × PL)) : Prop := (f.map (·.1)).Nodup ∧ ∀ e ∈ f, Can e.2
theorem sgt_nil (J : PL) : sgt [] J = none := rfl
theorem sgt_none {f : List (PL × PL)} {J : PL} : sgt f J = none ↔ J ∉ f.map (·.1) := by
  induction f with
  | nil => exact ⟨fun _ h => (nomatch h), fun _ => rfl⟩
  | cons e f ih =>
    rw [sgt_cons, List.map_cons, List.mem_cons]
    by_cases h : e.1 = J
    · rw [if_pos h]
      exact ⟨fun z => (nomatch z), fun z => absurd (Or.inl h.symm) z⟩
    · rw [if_neg h, ih]
      exact ⟨fun z y => y.elim (fun q => h q.symm) z, fun z y => z (Or.inr y)⟩
theorem sgt_mem {f : List (PL × PL)} (h : (f.map (·.1)).Nodup) {e : PL × PL} (he : e ∈ f) : sgt f e.1 = some e.2 := by
  induction f with
  | nil => exact nomatch he
  | cons x f ih =>
    rw [sgt_cons]
    rw [List.map_cons, List.nodup_cons] at h
    rcases List.mem_cons.mp he with y | y
    · rw [y, if_pos rfl]
    · rw [if_neg (fun z => h.1 (by rw [z]; exact List.mem_map.mpr ⟨e, y, rfl⟩))]
      exact ih h.2 y
theorem sgt_some {f : List (PL × PL)} {J t : PL} (h : sgt f J = some t) : (J, t) ∈ f := by
  induction f with
  | nil => exact nomatch h
  | cons x f ih =>
    rw [sgt_cons] at h
    by_cases e : x.1 = J
    · rw [if_pos e] at h
      cases h
      rw [← e]
      exact List.mem_cons_self
    · rw [if_neg e] at h
      exact List.mem_cons_of_mem _ (ih h)
theorem sput_keys (f : List (PL × PL)) (J t : PL) : (sput f J t).map (·.1) = if J ∈ f.map (·.1) then f.map (·.1) else f.map (·.1) ++ [J] := by
  unfold sput
  by_cases h : (sgt f J).isSome = true
  · rw [if_pos h]
    have m : J ∈ f.map (·.1) := by
      rcases Decidable.em (J ∈ f.map (·.1)) with z | z
      · exact z
      · rw [sgt_none.mpr z] at h; cases h
    rw [if_pos m, List.map_map]
    refine List.map_congr_left fun p _ => ?_
    show (if p.1 = J then (p.1, t) else p).1 = p.1
    split <;> rfl
  · rw [if_neg h]
    have m : J ∉ f.map (·.1) := sgt_none.mp (by
      cases z : sgt f J with
      | none => rfl
      | some u => rw [z] at h; exact absurd rfl h)
    rw [if_neg m, List.map_append]
    rfl
theorem nodup_snoc {α : Type} {l : List α} {x : α} (h : l.Nodup) (m : x ∉ l) : (l ++ [x]).Nodup :=
  List.nodup_append.mpr ⟨h, by simp, fun a ha b hb => by
    rw [List.mem_singleton.mp hb]
    exact fun z => m (z ▸ ha)⟩
theorem sput_nodup {f : List (PL × PL)} (h : (f.map (·.1)).Nodup) (J t : PL) : ((sput f J t).map (·.1)).Nodup := by
  rw [sput_keys]
  by_cases m : J ∈ f.map (·.1)
  · rw [if_pos m]; exact h
  · rw [if_neg m]; exact nodup_snoc h m
theorem sput_mem {f : List (PL × PL)} {J t : PL} (h : (f.map (·.1)).Nodup) {e : PL × PL} (he : e ∈ sput f J t) : e = (J, t) ∨ e ∈ f := by
  have h2 := sput_nodup h J t
  have h3 := sgt_mem h2 he
  rw [sgt_sput] at h3
  by_cases z : e.1 = J
  · rw [if_pos z] at h3
    exact .inl (Prod.ext z (Option.some.inj h3).symm)
  · rw [if_neg z] at h3
    exact .inr (sgt_some h3)
theorem Wf.nil : Wf [] := ⟨List.nodup_nil, fun e he => nomatch he⟩
theorem Wf.sput {f : List (PL × PL)} {J t : PL} (h : Wf f) (c : Can t) : Wf (sput f J t) := ⟨sput_nodup h.1 J t, fun e he => (sput_mem h.1 he).elim (fun z => by rw [z]; exact c) (h.2 e)⟩
theorem Wf.put {f : List (PL × PL)} {J t : PL} (h : Wf f) : Wf (putTo f J t) := h.sput (can_plus _ _)
theorem sc_put (f : List (PL × PL)) (J t J' : PL) (k : Int) : sc (putTo f J t) J' k = sc f J' k + if J' = J then cf t k else 0 := by
  unfold sc putTo
  rw [sgt_sput]
  by_cases h : J' = J
  · rw [if_pos h, if_pos h, h]
    show cf (plus _ _) k = _
    rw [cf_plus]
  · rw [if_neg h, if_neg h, Int.add_zero]
/-! without noughts -/
theorem nn_filter : ∀ (f g : List (PL × PL)), (f.map (·.1)).Nodup → (∀ e ∈ f, e.1 ∉ g.map (·.1)) → f.foldl (fun g kv => if kv.2 ≠ [] then sput g kv.1 kv.2 else g) g = g ++ f.filter fun e => decide (e.2 ≠ [])
  | [], g, _, _ => by rw [List.foldl_nil, List.filter_nil, List.append_nil]
  | e :: f, g, h, d => by
    rw [List.map_cons, List.nodup_cons] at h
    rw [List.foldl_cons, List.filter_cons]
    by_cases z : e.2 ≠ []
    · rw [if_pos z, if_pos (decide_eq_true z)]
      have hs : sput g e.1 e.2 = g ++ [e] := by
        unfold sput
        rw [sgt_none.mpr (d e List.mem_cons_self)]
        rfl
      rw [hs, nn_filter f (g ++ [e]) h.2 fun x hx => ?_, List.append_assoc]
      · rfl
      · rw [List.map_append]
        intro m
        rcases List.mem_append.mp m with m | m
        · exact d x (List.mem_cons_of_mem _ hx) m
        · have : x.1 = e.1 := List.mem_singleton.mp m
          exact h.1 (by
            rw [← this]
            exact List.mem_map.mpr ⟨x, hx, rfl⟩)
    · rw [if_neg z, if_neg (fun y => z (of_decide_eq_true y))]
      exact nn_filter f g h.2 fun x hx => d x (List.mem_cons_of_mem _ hx)
theorem noN_filter {f : List (PL × PL)} (h : (f.map (·.1)).Nodup) : noNoughts f = f.filter fun e => decide (e.2 ≠ []) := by
  unfold noNoughts
  rw [nn_filter f [] h (fun e _ => List.not_mem_nil), List.nil_append]
theorem filter_keys {f : List (PL × PL)} (h : (f.map (·.1)).Nodup) (p : PL × PL → Bool) : ((f.filter p).map (·.1)).Nodup := h.sublist (List.Sublist.map _ List.filter_sublist)
theorem sc_filter {f : List (PL × PL)} (h : (f.map (·.1)).Nodup) (J : PL) (k : Int) : sc (f.filter fun e => decide (e.2 ≠ [])) J k = sc f J k := by
  unfold sc
  cases z : sgt f J with
  | none =>
    have : sgt (f.filter fun e => decide (e.2 ≠ [])) J = none := sgt_none.mpr fun m => by
      obtain ⟨e, he, rfl⟩ := List.mem_map.mp m
      exact sgt_none.mp z (List.mem_map.mpr ⟨e, (List.mem_filter.mp he).1, rfl⟩)
    rw [this]
  | some t =>
    by_cases y : t = []
    · have : sgt (f.filter fun e => decide (e.2 ≠ [])) J = none := sgt_none.mpr fun m => by
        obtain ⟨e, he, rfl⟩ := List.mem_map.mp m
        obtain ⟨h1, h2⟩ := List.mem_filter.mp he
        rw [sgt_mem h h1] at z
        cases z
        exact of_decide_eq_true h2 y
      rw [this, y]
      rfl
    · have m := sgt_some z
      have m2 : (J, t) ∈ f.filter fun e => decide (e.2 ≠ []) := List.mem_filter.mpr ⟨m, decide_eq_true y⟩
      rw [sgt_mem (filter_keys h _) m2]
/-- a store as it should be -/
def Sf (f : List (PL × PL)) : Prop := Wf f ∧ ∀ e ∈ f, e.2 ≠ []
theorem Wf.noN {f : List (PL × PL)} (h : Wf f) : Sf (noNoughts f) ∧ ∀ J k, sc (noNoughts f) J k = sc f J k := by
  rw [noN_filter h.1]
  exact ⟨⟨⟨filter_keys h.1 _, fun e he => h.2 e (List.mem_filter.mp he).1⟩, fun e he => of_decide_eq_true (List.mem_filter.mp he).2⟩, fun J k => sc_filter h.1 J k⟩
theorem smerge_eq : ∀ (l acc : List (PL × PL)), (l.map (·.1)).Nodup → (∀ e ∈ l, e.1 ∉ acc.map (·.1)) → smerge acc l = acc ++ l
  | [], acc, _, _ => (List.append_nil acc).symm
  | e :: l, acc, h, d => by
    rw [List.map_cons, List.nodup_cons] at h
    have hs : sput acc e.1 e.2 = acc ++ [e] := by
      unfold sput
      rw [sgt_none.mpr (d e List.mem_cons_self)]
      rfl
    show smerge (sput acc e.1 e.2) l = _
    rw [hs, smerge_eq l (acc ++ [e]) h.2 fun x hx => ?_, List.append_assoc]
    · rfl
    · rw [List.map_append]
      intro m
      rcases List.mem_append.mp m with m | m
      · exact d x (List.mem_cons_of_mem _ hx) m
      · have : x.1 = e.1 := List.mem_singleton.mp m
        exact h.1 (by rw [← this]; exact List.mem_map.mpr ⟨x, hx, rfl⟩)
/-- what is due, as a store -/
theorem due_sf {l : List (PL × PL)} (h : Wf l) : Sf (smerge [] (dueOf l)) ∧ ∀ J k, sc (smerge [] (dueOf l)) J k = sc l J k := by
  unfold dueOf
  rw [smerge_eq _ [] (filter_keys h.1 _) (fun e _ => List.not_mem_nil), List.nil_append]
  exact ⟨⟨⟨filter_keys h.1 _, fun e he => h.2 e (List.mem_filter.mp he).1⟩, fun e he => of_decide_eq_true (List.mem_filter.mp he).2⟩, fun J k => sc_filter h.1 J k⟩
theorem subset_len {α : Type} [DecidableEq α] : ∀ {a b : List α}, a.Nodup → (∀ x ∈ a, x ∈ b) → a.length ≤ b.length
  | [], b, _, _ => Nat.zero_le _
  | x :: a, b, h, s => by
    rw [List.nodup_cons] at h
    have m := s x List.mem_cons_self
    have := subset_len (a := a) (b := b.erase x) h.2 fun y hy => (List.mem_erase_of_ne (fun z => h.1 (by rw [← z]; exact hy))).mpr (s y (List.mem_cons_of_mem _ hy))
    rw [List.length_erase_of_mem m] at this
    have := List.length_pos_of_mem m
    rw [List.length_cons]
    omega
/-- stores with the same coefficients are equal as dicts -/
theorem sf_get {a b : List (PL × PL)} (ha : Sf a) (hb : Sf b) (h : ∀ J k, sc a J k = sc b J k) {e : PL × PL} (he : e ∈ a) : sgt b e.1 = some e.2 := by
  have h1 := sgt_mem ha.1.1 he
  have hc : Can ((sgt b e.1).getD []) := by
    cases z : sgt b e.1 with
    | none => exact can_nil
    | some t => exact hb.1.2 _ (sgt_some z)
  have e2 : (sgt b e.1).getD [] = e.2 := can_eq hc (ha.1.2 e he) fun k => by
    have := h e.1 k
    unfold sc at this
    rw [h1] at this
    exact this.symm
  cases z : sgt b e.1 with
  | none =>
    rw [z] at e2
    exact absurd e2.symm (ha.2 e he)
  | some t =>
    rw [z] at e2
    exact congrArg some e2
theorem sf_eq {a b : List (PL × PL)} (ha : Sf a) (hb : Sf b) (h : ∀ J k, sc a J k = sc b J k) : sEq a b = true := by
  have l1 : a.length ≤ b.length := by
    have := subset_len (b := b.map (·.1)) ha.1.1 fun x hx => by
      obtain ⟨e, he, rfl⟩ := List.mem_map.mp hx
      exact List.mem_map.mpr ⟨_, sgt_some (sf_get ha hb h he), rfl⟩
    rw [List.length_map, List.length_map] at this
    exact this
  have l2 : b.length ≤ a.length := by
    have := subset_len (b := a.map (·.1)) hb.1.1 fun x hx => by
      obtain ⟨e, he, rfl⟩ := List.mem_map.mp hx
      exact List.mem_map.mpr ⟨_, sgt_some (sf_get hb ha (fun J k => (h J k).symm) he), rfl⟩
    rw [List.length_map, List.length_map] at this
    exact this
  unfold sEq sIn
  rw [Bool.and_eq_true, List.all_eq_true]
  exact ⟨by rw [beq_iff_eq]; omega, fun e he => decide_eq_true (sf_get ha hb h he)⟩
/-! what a crossing does to a store -/
abbrev Cf := Int → Int
/-- the store f stands for the keys and coefficients of l -/
def Rep (f : List (PL × PL)) (l : List (PL × Cf)) : Prop := Sf f ∧ ∀ J k, sc f J k = (l.map fun e => if J = e.1 then e.2 k else 0).sum
theorem sc_cons (x : PL × PL) (f : List (PL × PL)) (J : PL) : sc (x :: f) J = if x.1 = J then cf x.2 else sc f J := by
  unfold sc
  rw [sgt_cons]
  split <;> rfl
theorem sum_zero {α : Type} {l : List α} {g : α → Int} (h : ∀ x ∈ l, g x = 0) : (l.map g).sum = 0 := by
  induction l with
  | nil => rfl
  | cons x l ih => rw [List.map_cons, List.sum_cons, h x List.mem_cons_self, ih fun y hy => h y (List.mem_cons_of_mem _ hy)]; rfl
theorem sc_drop {f : List (PL × PL)} (h : (f.map (·.1)).Nodup) {J t : PL} (m : (J, t) ∈ f) (J' : PL) (k : Int) : sc (f.erase (J, t)) J' k = if J' = J then 0 else sc f J' k := by
  induction f with
  | nil => exact nomatch m
  | cons x f ih =>
    rw [List.map_cons, List.nodup_cons] at h
    by_cases e : x = (J, t)
    · subst e
      rw [List.erase_cons_head, sc_cons]
      by_cases z : J' = J
      · rw [if_pos z, z]
        unfold sc
        rw [sgt_none.mpr h.1]
        rfl
      · rw [if_neg z, if_neg (fun y => z y.symm)]
    · have m2 := (List.mem_cons.mp m).resolve_left fun z => e z.symm
      rw [List.erase_cons_tail (by simpa using e), sc_cons, sc_cons, ]
      by_cases z : x.1 = J'
      · rw [if_pos z, if_pos z]
        by_cases y : J' = J
        · exfalso
          exact h.1 (List.mem_map.mpr ⟨_, m2, by rw [z, y]⟩)
        · rw [if_neg y]
      · rw [if_neg z, if_neg z]
        exact ih h.2 m2
theorem Sf.drop {f : List (PL × PL)} (h : Sf f) (e : PL × PL) : Sf (f.erase e) :=
  ⟨⟨h.1.1.sublist (List.Sublist.map _ List.erase_sublist), fun x hx => h.1.2 x (List.mem_of_mem_erase hx)⟩, fun x hx => h.2 x (List.mem_of_mem_erase hx)⟩
theorem perm_sum {a b : List Int} (h : a.Perm b) : a.sum = b.sum := by
  induction h with
  | nil => rfl
  | cons x _ ih => rw [List.sum_cons, List.sum_cons, ih]
  | swap x y l => rw [List.sum_cons, List.sum_cons, List.sum_cons, List.sum_cons]; omega
  | trans _ _ h1 h2 => rw [h1, h2]
/-- sums over the entries of a store -/
theorem rep_sum (G : PL → Cf → Int) (G0 : ∀ J, G J (fun _ => 0) = 0) : ∀ (l : List (PL × Cf)) {f : List (PL × PL)}, (l.map (·.1)).Nodup → Rep f l → (f.map fun e => G e.1 (cf e.2)).sum = (l.map fun e => G e.1 e.2).sum
  | [], f, _, h => by
    cases f with
    | nil => rfl
    | cons x f =>
      exfalso
      refine h.1.2 x List.mem_cons_self (can_nil_of (h.1.1.2 x List.mem_cons_self) fun k => ?_)
      have := h.2 x.1 k
      rw [sc_cons, if_pos rfl] at this
      exact this
  | (L, z) :: l, f, hn, h => by
    rw [List.map_cons, List.nodup_cons] at hn
    have hz : ∀ k, sc f L k = z k := fun k => by
      rw [h.2, List.map_cons, List.sum_cons, if_pos rfl, sum_zero, Int.add_zero]
      intro e he
      rw [if_neg]
      intro y
      exact hn.1 (List.mem_map.mpr ⟨e, he, y.symm⟩)
    rw [List.map_cons, List.sum_cons]
    cases q : sgt f L with
    | none =>
      have z0 : z = fun _ => 0 := funext fun k => by
        rw [← hz k]
        unfold sc
        rw [q]
        rfl
      rw [rep_sum G G0 l hn.2 ⟨h.1, fun J k => ?_⟩, z0]
      · show _ = G L (fun _ => 0) + _
        rw [G0, Int.zero_add]
      · rw [h.2, List.map_cons, List.sum_cons, z0]
        show (if J = L then (0 : Int) else 0) + _ = _
        split <;> rw [Int.zero_add]
    | some t =>
      have m := sgt_some q
      have z0 : cf t = z := funext fun k => by
        rw [← hz k]
        unfold sc
        rw [q]
        rfl
      have p : f.Perm ((L, t) :: f.erase (L, t)) := List.perm_cons_erase m
      have e1 : (f.map fun e => G e.1 (cf e.2)).sum = G L z + ((f.erase (L, t)).map fun e => G e.1 (cf e.2)).sum := by
        rw [perm_sum (p.map _), List.map_cons, List.sum_cons]
        show G L (cf t) + _ = _
        rw [z0]
      rw [e1, rep_sum G G0 l hn.2 ⟨h.1.drop _, fun J k => ?_⟩]
      rw [sc_drop h.1.1.1 m]
      by_cases y : J = L
      · rw [if_pos y, sum_zero]
        intro e he
        rw [if_neg]
        intro w
        exact hn.1 (List.mem_map.mpr ⟨e, he, by rw [← w, y]⟩)
      · rw [if_neg y, h.2, List.map_cons, List.sum_cons, if_neg y, Int.zero_add]
/-- what an entry gives behind a crossing -/
def kOf (c : List Int) (J : PL) (way : Nat) : PL := openJoin (openedAt (strandsOf J) c way).1
def rOf (c : List Int) (J : PL) (way : Nat) : Nat := (openedAt (strandsOf J) c way).2
def ctr (c : List Int) (J' J : PL) (g : Cf) (way : Nat) (k : Int) : Int := if J' = kOf c J way then dls (fun k => g (k - (1 - 2 * (way : Int)))) (rOf c J way) k else 0
theorem dls_zero : ∀ n, dls (fun _ => 0) n = fun _ => 0
  | 0 => rfl
  | n + 1 => by
    show dl (dls (fun _ => 0) n) = _
    rw [dls_zero n]
    rfl
theorem ctr_zero (c : List Int) (J' J : PL) (way : Nat) (k : Int) : ctr c J' J (fun _ => 0) way k = 0 := by
  unfold ctr
  rw [dls_zero]
  split <;> rfl
theorem sc_step (c : List Int) (e : PL × PL) (f : List (PL × PL)) (way : Nat) (J : PL) (k : Int) : sc (behindStep c e f way) J k = sc f J k + ctr c J e.1 (cf e.2) way k := by
  unfold behindStep ctr
  rw [sc_put]
  show _ + (if J = kOf c e.1 way then _ else _) = _
  have : cf (withRings (lifted e.2 (1 - 2 * (way : Int))) (openedAt (strandsOf e.1) c way).2) k = dls (fun k => cf e.2 (k - (1 - 2 * (way : Int)))) (rOf c e.1 way) k := by
    rw [cf_withRings]
    show dls (cf (lifted e.2 _)) (rOf c e.1 way) k = _
    rw [show cf (lifted e.2 (1 - 2 * (way : Int))) = fun k => cf e.2 (k - (1 - 2 * (way : Int))) from funext fun k => cf_lifted _ _ _]
  rw [this]
theorem Wf.step {c : List Int} {e : PL × PL} {f : List (PL × PL)} {way : Nat} (h : Wf f) : Wf (behindStep c e f way) := h.put
theorem sc_fold (c : List Int) (J : PL) (k : Int) : ∀ (st f : List (PL × PL)), Wf f → Wf (st.foldl (behind c) f) ∧ sc (st.foldl (behind c) f) J k = sc f J k + (st.map fun e => ctr c J e.1 (cf e.2) 0 k + ctr c J e.1 (cf e.2) 1 k).sum
  | [], f, h => ⟨h, by rw [List.foldl_nil, List.map_nil, List.sum_nil, Int.add_zero]⟩
  | e :: st, f, h => by
    obtain ⟨z1, z2⟩ := sc_fold c J k st (behind c f e) (h.step.step)
    refine ⟨z1, ?_⟩
    rw [List.foldl_cons, z2, List.map_cons, List.sum_cons]
    show sc (behindStep c e (behindStep c e f 0) 1) J k + _ = _
    rw [sc_step, sc_step]
    omega
theorem behind_rep {st : List (PL × PL)} {l : List (PL × Cf)} (c : List Int) (hn : (l.map (·.1)).Nodup) (h : Rep st l) : Sf (storeBehind st c) ∧ ∀ J k, sc (storeBehind st c) J k = (l.map fun e => ctr c J e.1 e.2 0 k + ctr c J e.1 e.2 1 k).sum := by
  have w : Wf (st.foldl (behind c) []) := (sc_fold c [] 0 st [] Wf.nil).1
  obtain ⟨z1, z2⟩ := w.noN
  refine ⟨z1, fun J k => ?_⟩
  show sc (noNoughts (st.foldl (behind c) [])) J k = _
  rw [z2, (sc_fold c J k st [] Wf.nil).2]
  rw [rep_sum (fun J0 g => ctr c J J0 g 0 k + ctr c J J0 g 1 k) (fun J0 => by rw [ctr_zero, ctr_zero]; rfl) l hn h]
  show (0 : Int) + _ = _
  rw [Int.zero_add]
/-- the sums -/
def ctrS (ends : List Int) (rings : Nat) (J' J : PL) (g : Cf) (k : Int) : Int := if J' = joiningOf ends (strandsOf J) then dls g rings k else 0
theorem sc_sums (ends : List Int) (rings : Nat) (J : PL) (k : Int) : ∀ (st f : List (PL × PL)), Wf f → Wf (st.foldl (sumsStep ends rings) f) ∧ sc (st.foldl (sumsStep ends rings) f) J k = sc f J k + (st.map fun e => ctrS ends rings J e.1 (cf e.2) k).sum
  | [], f, h => ⟨h, by rw [List.foldl_nil, List.map_nil, List.sum_nil, Int.add_zero]⟩
  | e :: st, f, h => by
    obtain ⟨z1, z2⟩ := sc_sums ends rings J k st (sumsStep ends rings f e) h.put
    refine ⟨z1, ?_⟩
    rw [List.foldl_cons, z2, List.map_cons, List.sum_cons]
    unfold sumsStep ctrS
    rw [sc_put, cf_withRings]
    omega
theorem sums_rep {st : List (PL × PL)} {l : List (PL × Cf)} (ends : List Int) (rings : Nat) (hn : (l.map (·.1)).Nodup) (h : Rep st l) : Sf (sumsOf st ends rings) ∧ ∀ J k, sc (sumsOf st ends rings) J k = (l.map fun e => ctrS ends rings J e.1 e.2 k).sum := by
  have w : Wf (st.foldl (sumsStep ends rings) []) := (sc_sums ends rings [] 0 st [] Wf.nil).1
  obtain ⟨z1, z2⟩ := w.noN
  refine ⟨z1, fun J k => ?_⟩
  show sc (noNoughts (st.foldl (sumsStep ends rings) [])) J k = _
  rw [z2, (sc_sums ends rings J k st [] Wf.nil).2]
  rw [rep_sum (fun J0 g => ctrS ends rings J J0 g k) (fun J0 => by unfold ctrS; rw [dls_zero]; split <;> rfl) l hn h]
  show (0 : Int) + _ = _
  rw [Int.zero_add]
end TH
end
section
set_option Elab.async false
set_option linter.all false
namespace TH
/-! the same under other names -/
def mp (g : Int → Int) (d : PL) : PL := d.map fun p => (g p.1, g p.2)
def Inj (g : Int → Int) : Prop := ∀ x y, g x = g y → x = y
section
variable {g : Int → Int}
theorem inj_iff (h : Inj g) {x y : Int} : g x = g y ↔ x = y := ⟨h x y, fun e => by rw [e]⟩
theorem mp_inj (h : Inj g) : ∀ {a b : PL}, mp g a = mp g b → a = b
  | [], [], _ => rfl
  | [], _ :: _, e => nomatch e
  | _ :: _, [], e => nomatch e
  | x :: a, y :: b, e => by
    have e' : (g x.1, g x.2) :: mp g a = (g y.1, g y.2) :: mp g b := e
    injection e' with e1 e2
    injection e1 with e3 e4
    rw [mp_inj h e2, Prod.ext (h _ _ e3) (h _ _ e4)]
theorem dv_mp (h : Inj g) (d : PL) (k : Int) : dv (mp g d) (g k) = (dv d k).map g := by
  induction d with
  | nil => rfl
  | cons e d ih =>
    show dv ((g e.1, g e.2) :: mp g d) (g k) = _
    rw [dv_cons, dv_cons, ih]
    by_cases z : e.1 = k
    · rw [if_pos z, if_pos (by show g e.1 = g k; rw [z])]; rfl
    · rw [if_neg z, if_neg (fun y => z (h _ _ y))]
theorem dp_mp (h : Inj g) (d : PL) (k v : Int) : dp (mp g d) (g k) (g v) = mp g (dp d k v) := by
  unfold dp
  have e : ((mp g d).any fun p => decide (p.1 = g k)) = d.any fun p => decide (p.1 = k) := by
    unfold mp
    rw [List.any_map]
    congr 1
    funext p
    show decide (g p.1 = g k) = decide (p.1 = k)
    rw [decide_eq_decide]
    exact inj_iff h
  rw [e]
  by_cases z : (d.any fun p => decide (p.1 = k)) = true
  · rw [if_pos z, if_pos z]
    unfold mp
    rw [List.map_map, List.map_map]
    refine List.map_congr_left fun p _ => ?_
    show (if g p.1 = g k then (g p.1, g v) else (g p.1, g p.2)) = (g (if p.1 = k then (p.1, v) else p).1, g (if p.1 = k then (p.1, v) else p).2)
    by_cases y : p.1 = k
    · rw [if_pos y, if_pos (by rw [y])]
    · rw [if_neg y, if_neg (fun q => y (h _ _ q))]
  · rw [if_neg z, if_neg z]
    unfold mp
    rw [List.map_append]
    rfl
theorem dd_mp (h : Inj g) (d : PL) (k : Int) : dd (mp g d) (g k) = mp g (dd d k) := by
  unfold dd mp
  rw [List.filter_map]
  congr 1
  refine List.filter_congr fun p _ => ?_
  show decide (g p.1 ≠ g k) = decide (p.1 ≠ k)
  rw [decide_eq_decide, ne_eq, ne_eq, inj_iff h]
theorem getD_map (g : Int → Int) (o : Option Int) (a : Int) : (o.map g).getD (g a) = g (o.getD a) := by cases o <;> rfl
theorem strung_mp (h : Inj g) (s : PL) (a b : Int) : strung (mp g s) (g a) (g b) = (mp g (strung s a b).1, (strung s a b).2) := by
  unfold strung
  by_cases e : a = b
  · rw [if_pos e, if_pos (by rw [e])]
  · rw [if_neg e, if_neg (fun z => e (h _ _ z))]
    dsimp only
    rw [dv_mp h, getD_map, dd_mp h, dv_mp h, getD_map]
    by_cases f : (dv s a).getD a = b
    · rw [if_pos f, if_pos (by rw [f]), dd_mp h]
    · rw [if_neg f, if_neg (fun z => f (h _ _ z)), dd_mp h, dp_mp h, dp_mp h]
theorem strandsOf_mp (h : Inj g) (J : PL) : strandsOf (mp g J) = mp g (strandsOf J) := by
  unfold strandsOf
  suffices z : ∀ s : PL, (mp g J).foldl (fun s p => dp (dp s p.1 p.2) p.2 p.1) (mp g s) = mp g (J.foldl (fun s p => dp (dp s p.1 p.2) p.2 p.1) s) from z []
  induction J with
  | nil => exact fun s => rfl
  | cons p J ih =>
    intro s
    show (mp g J).foldl _ (dp (dp (mp g s) (g p.1) (g p.2)) (g p.2) (g p.1)) = _
    rw [dp_mp h, dp_mp h, ih]
    rfl
theorem getD_mapL {c : List Int} {i : Nat} (h : i < c.length) : (c.map g).getD i 0 = g (c.getD i 0) := by
  rw [List.getD_eq_getElem?_getD, List.getD_eq_getElem?_getD, List.getElem?_map, List.getElem?_eq_getElem h]
  rfl
theorem openedAt_mp (h : Inj g) (s : PL) {c : List Int} (hc : c.length = 4) (way : Nat) : openedAt (mp g s) (c.map g) way = (mp g (openedAt s c way).1, (openedAt s c way).2) := by
  have h0 : (c.map g).getD 0 0 = g (c.getD 0 0) := getD_mapL (by omega)
  have h1 : (c.map g).getD 1 0 = g (c.getD 1 0) := getD_mapL (by omega)
  have h2 : (c.map g).getD 2 0 = g (c.getD 2 0) := getD_mapL (by omega)
  have h3 : (c.map g).getD 3 0 = g (c.getD 3 0) := getD_mapL (by omega)
  unfold openedAt joins
  by_cases w : way = 0
  · rw [if_pos w]
    show openStep (c.map g) (openStep (c.map g) (mp g s, 0) (0, 1)) (2, 3) = (mp g (openStep c (openStep c (s, 0) (0, 1)) (2, 3)).1, (openStep c (openStep c (s, 0) (0, 1)) (2, 3)).2)
    unfold openStep
    dsimp only
    rw [h0, h1, h2, h3, strung_mp h, strung_mp h]
  · rw [if_neg w]
    show openStep (c.map g) (openStep (c.map g) (mp g s, 0) (0, 3)) (1, 2) = (mp g (openStep c (openStep c (s, 0) (0, 3)) (1, 2)).1, (openStep c (openStep c (s, 0) (0, 3)) (1, 2)).2)
    unfold openStep
    dsimp only
    rw [h0, h1, h2, h3, strung_mp h, strung_mp h]
theorem joiningOf_mp (h : Inj g) (ends : List Int) (s : PL) : joiningOf (ends.map g) (mp g s) = joiningOf ends s := by
  unfold joiningOf
  rw [List.length_map]
  have e : ∀ i, i < ends.length → joinRow (ends.map g) (mp g s) i = joinRow ends s i := fun i hi => by
    unfold joinRow
    rw [List.length_map]
    congr 1
    refine List.filter_congr fun j hj => ?_
    have hj2 : j < ends.length := by
      have := List.mem_range'.mp hj
      obtain ⟨x, hx, rfl⟩ := this
      omega
    rw [getD_mapL hj2, getD_mapL hi, dv_mp h, getD_map, decide_eq_decide]
    exact inj_iff h
  rw [List.flatMap_def, List.flatMap_def]
  congr 1
  exact List.map_congr_left fun i hi => e i (List.mem_range.mp hi)
theorem openB_mp (h : Inj g) (c : List Int) : ∀ A : List Int, openB (A.map g) (c.map g) = (openB A c).map g := by
  unfold openB
  induction c with
  | nil => exact fun A => rfl
  | cons a c ih =>
    intro A
    rw [List.map_cons, List.foldl_cons, List.foldl_cons, ← ih]
    congr 1
    have m : (g a ∈ A.map g) ↔ a ∈ A := by
      rw [List.mem_map]
      exact ⟨fun ⟨x, hx, e⟩ => h _ _ e ▸ hx, fun z => ⟨a, z, rfl⟩⟩
    by_cases z : a ∈ A
    · rw [if_pos z, if_pos (m.mpr z), List.filter_map]
      congr 1
      refine List.filter_congr fun p _ => ?_
      show decide (g p ≠ g a) = decide (p ≠ a)
      rw [decide_eq_decide, ne_eq, ne_eq, inj_iff h]
    · rw [if_neg z, if_neg (fun y => z (m.mp y)), List.map_append]
      rfl
end
/-! joinings told by pairs in any order -/
theorem openJoin_perm {a b : PL} (h : a.Perm b) : openJoin a = openJoin b := by
  unfold openJoin
  refine sortP_unique ?_ (sortP_sorted _)
  exact (sortP_perm _).trans (h.filter _)
def sw (p : Int × Int) : Int × Int := (p.2, p.1)
def both (M : PL) : PL := M ++ M.map sw
def key (g : Int → Int) (M : PL) : PL := openJoin (mp g (both M))
def forms (M : PL) : List PL :=
  match M with
  | [] => [[]]
  | [p] => [[p], [sw p]]
  | p :: q :: _ => [[p, q], [p, sw q], [sw p, q], [sw p, sw q], [q, p], [sw q, p], [q, sw p], [sw q, sw p]]
theorem perm_two {α : Type} {l : List α} {a b : α} (h : l.Perm [a, b]) : l = [a, b] ∨ l = [b, a] := by
  match l, h.length_eq with
  | [x, y], _ =>
    have hx := h.mem_iff.mp (List.mem_cons_self (a := x) (l := [y]))
    rcases List.mem_cons.mp hx with e | e
    · left
      subst e
      have := (List.perm_cons x).mp h
      rw [List.perm_singleton.mp this]
    · have e : x = b := List.mem_singleton.mp e
      right
      subst e
      have h2 : [x, y].Perm [x, a] := h.trans (List.Perm.swap _ _ _)
      rw [List.perm_singleton.mp ((List.perm_cons x).mp h2)]
/-- pairs of two labels, at most two of them -/
def Two (M : PL) : Prop := M.length ≤ 2 ∧ ∀ p ∈ M, p.1 ≠ p.2
theorem key_form {g : Int → Int} (h : Inj g) {M : PL} (t : Two M) : ∃ J ∈ forms M, key g M = mp g J := by
  have sp : ∀ p : Int × Int, p.1 ≠ p.2 → (g p.1 < g p.2 ∧ ¬ g p.2 < g p.1) ∨ (¬ g p.1 < g p.2 ∧ g p.2 < g p.1) := fun p hp => by
    have : g p.1 ≠ g p.2 := fun e => hp (h _ _ e)
    omega
  match M, t with
  | [], _ => exact ⟨[], List.mem_cons_self, List.perm_nil.mp (sortP_perm [])⟩
  | [p], t =>
    unfold key openJoin
    have e : ((mp g (both [p])).filter fun q => decide (q.1 < q.2)) = [(g p.1, g p.2), (g p.2, g p.1)].filter fun q => decide (q.1 < q.2) := rfl
    rw [e]
    rcases sp p (t.2 p List.mem_cons_self) with ⟨a, b⟩ | ⟨a, b⟩
    · have e2 : ([(g p.1, g p.2), (g p.2, g p.1)].filter fun q => decide (q.1 < q.2)) = [(g p.1, g p.2)] := by simp [List.filter_cons, a, b]
      rw [e2]
      exact ⟨[p], List.mem_cons_self, List.perm_singleton.mp (sortP_perm _)⟩
    · have e2 : ([(g p.1, g p.2), (g p.2, g p.1)].filter fun q => decide (q.1 < q.2)) = [(g p.2, g p.1)] := by simp [List.filter_cons, a, b]
      rw [e2]
      exact ⟨[sw p], List.mem_cons_of_mem _ List.mem_cons_self, List.perm_singleton.mp (sortP_perm _)⟩
  | [p, q], t =>
    unfold key openJoin
    have e : ((mp g (both [p, q])).filter fun q => decide (q.1 < q.2)) = [(g p.1, g p.2), (g q.1, g q.2), (g p.2, g p.1), (g q.2, g q.1)].filter fun q => decide (q.1 < q.2) := rfl
    rw [e]
    have f1 : forms [p, q] = [[p, q], [p, sw q], [sw p, q], [sw p, sw q], [q, p], [sw q, p], [q, sw p], [sw q, sw p]] := rfl
    rw [f1]
    rcases sp p (t.2 p List.mem_cons_self) with ⟨a, b⟩ | ⟨a, b⟩ <;> rcases sp q (t.2 q (List.mem_cons_of_mem _ List.mem_cons_self)) with ⟨c, d⟩ | ⟨c, d⟩
    · have e2 : ([(g p.1, g p.2), (g q.1, g q.2), (g p.2, g p.1), (g q.2, g q.1)].filter fun q => decide (q.1 < q.2)) = [(g p.1, g p.2), (g q.1, g q.2)] := by simp [List.filter_cons, a, b, c, d]
      rw [e2]
      rcases perm_two (sortP_perm [(g p.1, g p.2), (g q.1, g q.2)]) with z | z
      · exact ⟨[p, q], by simp, z⟩
      · exact ⟨[q, p], by simp, z⟩
    · have e2 : ([(g p.1, g p.2), (g q.1, g q.2), (g p.2, g p.1), (g q.2, g q.1)].filter fun q => decide (q.1 < q.2)) = [(g p.1, g p.2), (g q.2, g q.1)] := by simp [List.filter_cons, a, b, c, d]
      rw [e2]
      rcases perm_two (sortP_perm [(g p.1, g p.2), (g q.2, g q.1)]) with z | z
      · exact ⟨[p, sw q], by simp, z⟩
      · exact ⟨[sw q, p], by simp, z⟩
    · have e2 : ([(g p.1, g p.2), (g q.1, g q.2), (g p.2, g p.1), (g q.2, g q.1)].filter fun q => decide (q.1 < q.2)) = [(g q.1, g q.2), (g p.2, g p.1)] := by simp [List.filter_cons, a, b, c, d]
      rw [e2]
      rcases perm_two (sortP_perm [(g q.1, g q.2), (g p.2, g p.1)]) with z | z
      · exact ⟨[q, sw p], by simp, z⟩
      · exact ⟨[sw p, q], by simp, z⟩
    · have e2 : ([(g p.1, g p.2), (g q.1, g q.2), (g p.2, g p.1), (g q.2, g q.1)].filter fun q => decide (q.1 < q.2)) = [(g p.2, g p.1), (g q.2, g q.1)] := by simp [List.filter_cons, a, b, c, d]
      rw [e2]
      rcases perm_two (sortP_perm [(g p.2, g p.1), (g q.2, g q.1)]) with z | z
      · exact ⟨[sw p, sw q], by simp, z⟩
      · exact ⟨[sw q, sw p], by simp, z⟩
  | _ :: _ :: _ :: _, t => exact absurd t.1 (by simp)
/-- what a crossing does, told by labels -/
def Tab (c : List Int) (way : Nat) (M M' : PL) (r : Nat) : Bool := (forms M).all fun J => (openedAt (strandsOf J) c way).2 == r && (openedAt (strandsOf J) c way).1.isPerm (both M')
theorem tab_ok {g : Int → Int} (h : Inj g) {c : List Int} (hc : c.length = 4) {way : Nat} {M M' : PL} {r : Nat} (t2 : Two M) (t : Tab c way M M' r = true) : kOf (c.map g) (key g M) way = key g M' ∧ rOf (c.map g) (key g M) way = r := by
  obtain ⟨J, hJ, e⟩ := key_form h t2
  unfold Tab at t
  rw [List.all_eq_true] at t
  have z := t J hJ
  rw [Bool.and_eq_true, beq_iff_eq, List.isPerm_iff] at z
  unfold kOf rOf
  rw [e, strandsOf_mp h, openedAt_mp h _ hc]
  refine ⟨?_, z.1⟩
  show openJoin (mp g _) = openJoin (mp g _)
  exact openJoin_perm (z.2.map _)
def TabS (ends : List Int) (M J' : PL) : Bool := (forms M).all fun J => joiningOf ends (strandsOf J) == J'
theorem tabS_ok {g : Int → Int} (h : Inj g) {ends : List Int} {M J' : PL} (t2 : Two M) (t : TabS ends M J' = true) : joiningOf (ends.map g) (strandsOf (key g M)) = J' := by
  obtain ⟨J, hJ, e⟩ := key_form h t2
  unfold TabS at t
  rw [List.all_eq_true] at t
  have z := t J hJ
  rw [beq_iff_eq] at z
  rw [e, strandsOf_mp h, joiningOf_mp h, z]
theorem key_ne {g : Int → Int} (h : Inj g) {M N : PL} (t : Two M) (u : Two N) (d : ∀ J ∈ forms M, J ∉ forms N) : key g M ≠ key g N := fun e => by
  obtain ⟨J, hJ, e1⟩ := key_form h t
  obtain ⟨J2, hJ2, e2⟩ := key_form h u
  have : J = J2 := mp_inj h (by rw [← e1, ← e2, e])
  exact d J hJ (this ▸ hJ2)
/-! arcs for labels -/
def gL (as : List Int) (x : Int) : Int := if 0 ≤ x then (match as[x.toNat]? with | some v => v | none => -1 - 2 * x) else 2 * x
theorem nodup_at {α : Type} {l : List α} (h : l.Nodup) {i j : Nat} {x : α} (hi : l[i]? = some x) (hj : l[j]? = some x) : i = j := by
  induction l generalizing i j with
  | nil => exact nomatch hi
  | cons a l ih =>
    rw [List.nodup_cons] at h
    cases i with
    | zero =>
      cases j with
      | zero => rfl
      | succ j =>
        exfalso
        have e : a = x := Option.some.inj hi
        exact h.1 (e ▸ List.mem_of_getElem? hj)
    | succ i =>
      cases j with
      | zero =>
        exfalso
        have e : a = x := Option.some.inj hj
        exact h.1 (e ▸ List.mem_of_getElem? hi)
      | succ j => rw [ih h.2 hi hj]
theorem gL_inj {as : List Int} (h : as.Nodup) (p : ∀ v ∈ as, 0 ≤ v) : Inj (gL as) := by
  intro x y e
  unfold gL at e
  by_cases hx : 0 ≤ x <;> by_cases hy : 0 ≤ y
  · rw [if_pos hx, if_pos hy] at e
    cases ax : as[x.toNat]? with
    | none =>
      rw [ax] at e
      cases ay : as[y.toNat]? with
      | none => rw [ay] at e; dsimp only at e; omega
      | some v =>
        rw [ay] at e
        dsimp only at e
        have := p v (List.mem_of_getElem? ay)
        omega
    | some u =>
      rw [ax] at e
      have hu := p u (List.mem_of_getElem? ax)
      cases ay : as[y.toNat]? with
      | none => rw [ay] at e; dsimp only at e; omega
      | some v =>
        rw [ay] at e
        dsimp only at e
        obtain ⟨h1, e1⟩ := List.getElem?_eq_some_iff.mp ax
        obtain ⟨h2, e2⟩ := List.getElem?_eq_some_iff.mp ay
        have := nodup_at h ax (by rw [ay, e])
        omega
  · rw [if_pos hx, if_neg hy] at e
    cases ax : as[x.toNat]? with
    | none => rw [ax] at e; dsimp only at e; omega
    | some u =>
      rw [ax] at e
      have hu := p u (List.mem_of_getElem? ax)
      dsimp only at e
      omega
  · rw [if_neg hx, if_pos hy] at e
    cases ay : as[y.toNat]? with
    | none => rw [ay] at e; dsimp only at e; omega
    | some u =>
      rw [ay] at e
      have hu := p u (List.mem_of_getElem? ay)
      dsimp only at e
      omega
  · rw [if_neg hx, if_neg hy] at e
    omega
end TH
end
section
set_option Elab.async false
set_option linter.all false
namespace TH
/-! what a half twist does, told by labels: 0, 1 the arcs of its left junction, 2, 3 of its right one -/
def cr (w : Int) (t : Nat) : List Int := rot t (if 0 < w then rot 1 [0, 1, 3, 2] else [0, 1, 3, 2])
def rl (τ : List Int) (c : List Int) : List Int := c.map fun x => τ.getD x.toNat 0
def wL (w : Int) : Nat := if 0 < w then 0 else 1
def wU (w : Int) : Nat := if 0 < w then 1 else 0
def chk (τ : List Int) (M ML MU : PL) (rL rU : Nat) : Bool :=
  [(1 : Int), -1].all fun w => [0, 2].all fun t => Tab (rl τ (cr w t)) (wL w) M ML rL && Tab (rl τ (cr w t)) (wU w) M MU rU
def idl : List Int := [0, 1, 2, 3]
theorem t_rightL : chk idl [(4, 0), (5, 1)] [(4, 2), (5, 3)] [(4, 5), (2, 3)] 0 0 = true := by decide +kernel
theorem t_rightU : chk idl [(4, 5), (0, 1)] [(4, 5), (2, 3)] [(4, 5), (2, 3)] 0 1 = true := by decide +kernel
theorem t_leftL : chk idl [(2, 4), (3, 5)] [(0, 4), (1, 5)] [(0, 1), (4, 5)] 0 0 = true := by decide +kernel
theorem t_leftU : chk idl [(2, 3), (4, 5)] [(0, 1), (4, 5)] [(0, 1), (4, 5)] 0 1 = true := by decide +kernel
theorem t_first : chk idl [] [(0, 2), (1, 3)] [(0, 1), (2, 3)] 0 0 = true := by decide +kernel
theorem t_closeL : chk idl [(2, 0), (3, 1)] [] [] 2 1 = true := by decide +kernel
theorem t_closeU : chk idl [(2, 3), (0, 1)] [] [] 1 2 = true := by decide +kernel
theorem t_cyc1 : chk [0, 1, 0, 1] [] [] [] 2 1 = true := by decide +kernel
theorem t_capL : chk [0, 0, 1, 2] [] [(1, 2)] [(1, 2)] 0 1 = true := by decide +kernel
theorem t_capR : chk [0, 1, 2, 2] [] [(0, 1)] [(0, 1)] 0 1 = true := by decide +kernel
theorem t_capLR : chk [0, 0, 1, 1] [] [] [] 1 2 = true := by decide +kernel
theorem t_cr : chk idl [(0, 1)] [(2, 3)] [(2, 3)] 0 1 = true := by decide +kernel
theorem t_cl : chk idl [(2, 3)] [(0, 1)] [(0, 1)] 0 1 = true := by decide +kernel
theorem t_lastR : chk [0, 1, 2, 2] [(0, 1)] [] [] 1 2 = true := by decide +kernel
theorem t_lastL : chk [0, 0, 1, 2] [(1, 2)] [] [] 1 2 = true := by decide +kernel
theorem cr_len (τ : List Int) (w : Int) (t : Nat) : (rl τ (cr w t)).length = 4 := by
  unfold rl cr
  rw [List.length_map, rot_len]
  split
  · rw [rot_len]; rfl
  · rfl
def Pm (w : Int) : Prop := w = 1 ∨ w = -1
/-- the two rows of numbers that an entry gives -/
theorem ctr_chk {g : Int → Int} (h : Inj g) {τ : List Int} {M ML MU : PL} {rL rU : Nat} (t2 : Two M) (ck : chk τ M ML MU rL rU = true) {w : Int} {t : Nat} (hw : Pm w) (ht : t = 0 ∨ t = 2) (J : PL) (z : Cf) (k : Int) :
    ctr ((rl τ (cr w t)).map g) J (key g M) z 0 k + ctr ((rl τ (cr w t)).map g) J (key g M) z 1 k
      = (if J = key g ML then dls (fun k => z (k - w)) rL k else 0) + (if J = key g MU then dls (fun k => z (k + w)) rU k else 0) := by
  have hc := cr_len τ w t
  unfold chk at ck
  rw [List.all_eq_true] at ck
  have a := ck w (by rcases hw with rfl | rfl <;> simp)
  rw [List.all_eq_true] at a
  have b := a t (by rcases ht with rfl | rfl <;> simp)
  rw [Bool.and_eq_true] at b
  have l := tab_ok h hc t2 b.1
  have u := tab_ok h hc t2 b.2
  have h0 : (fun k : Int => z (k - (1 - 2 * ((0 : Nat) : Int)))) = fun k => z (k - 1) := rfl
  have h1 : (fun k : Int => z (k - (1 - 2 * ((1 : Nat) : Int)))) = fun k => z (k + 1) := funext fun k => by rw [show k - (1 - 2 * ((1 : Nat) : Int)) = k + 1 by omega]
  rcases hw with rfl | rfl
  · have e0 : wL 1 = 0 := rfl
    have e1 : wU 1 = 1 := rfl
    rw [e0] at l
    rw [e1] at u
    unfold ctr
    rw [l.1, l.2, u.1, u.2]
    rw [h0, h1]
  · have e0 : wL (-1) = 1 := rfl
    have e1 : wU (-1) = 0 := rfl
    rw [e0] at l
    rw [e1] at u
    unfold ctr
    rw [l.1, l.2, u.1, u.2, h0, h1, Int.add_comm]
    have h2 : (fun k => z (k + 1)) = fun k => z (k - -1) := funext fun k => by rw [show k + 1 = k - -1 by omega]
    have h3 : (fun k => z (k - 1)) = fun k => z (k + -1) := funext fun k => by rw [show k - 1 = k + -1 by omega]
    rw [h2, h3]
/-! the rows of numbers -/
def Tw (w : Int) (s : Cf × Cf) : Cf × Cf := (fun k => s.1 (k - w), fun k => s.1 (k + w) - s.2 (k + 3 * w))
def Cw (w : Int) (f : Cf) : Cf := fun k => -f (k + 3 * w)
theorem cw_eq {w : Int} (hw : Pm w) (f : Cf) (k : Int) : f (k - w) + dl (fun k => f (k + w)) k = Cw w f k := by
  unfold dl Cw
  dsimp only
  rcases hw with rfl | rfl
  · have e1 : k - 2 + 1 = k - 1 := by omega
    have e2 : k + 2 + 1 = k + 3 * 1 := by omega
    rw [e1, e2]
    omega
  · have e1 : k + 2 + -1 = k - -1 := by omega
    have e2 : k - 2 + -1 = k + 3 * -1 := by omega
    rw [e1, e2]
    omega
theorem dl_add (f h : Cf) (k : Int) : dl (fun k => f k + h k) k = dl f k + dl h k := by unfold dl; dsimp only; omega
theorem dl_sub (f h : Cf) (k : Int) : dl (fun k => f k - h k) k = dl f k - dl h k := by unfold dl; dsimp only; omega
theorem dl_neg (f : Cf) (k : Int) : dl (fun k => -f k) k = -dl f k := by unfold dl; dsimp only; omega
theorem dl_shift (f : Cf) (m k : Int) : dl (fun k => f (k + m)) k = dl f (k + m) := by
  unfold dl
  dsimp only
  have e1 : k - 2 + m = k + m - 2 := by omega
  have e2 : k + 2 + m = k + m + 2 := by omega
  rw [e1, e2]
theorem dl_cw {w : Int} (hw : Pm w) (f : Cf) (k : Int) : dl (fun k => f (k - w)) k + dl (dl fun k => f (k + w)) k = dl (Cw w f) k := by
  rw [← dl_add]
  congr 1
  funext k
  exact cw_eq hw f k
/-- Z + ring Y -/
def cap (s : Cf × Cf) : Cf := fun k => s.1 k + dl s.2 k
theorem cap_tw {w : Int} (hw : Pm w) (s : Cf × Cf) : cap (Tw w s) = Cw w (cap s) := by
  funext k
  show s.1 (k - w) + dl (fun k => s.1 (k + w) - s.2 (k + 3 * w)) k = -(s.1 (k + 3 * w) + dl s.2 (k + 3 * w))
  rw [dl_sub, dl_shift s.2]
  have := cw_eq hw s.1 k
  unfold Cw at this
  omega
theorem tw_comm {v w : Int} (hv : Pm v) (hw : Pm w) (s : Cf × Cf) : Tw v (Tw w s) = Tw w (Tw v s) := by
  unfold Tw
  rcases hv with rfl | rfl <;> rcases hw with rfl | rfl
  · rfl
  · refine Prod.ext (funext fun k => ?_) (funext fun k => ?_)
    · show s.1 (k - 1 - -1) = s.1 (k - -1 - 1)
      rw [show k - 1 - -1 = k - -1 - 1 by omega]
    · show s.1 (k + 1 - -1) - (s.1 (k + 3 * 1 + -1) - s.2 (k + 3 * 1 + 3 * -1)) = s.1 (k + -1 - 1) - (s.1 (k + 3 * -1 + 1) - s.2 (k + 3 * -1 + 3 * 1))
      have e1 : k + 1 - -1 = k + 3 * 1 + -1 := by omega
      have e2 : k + -1 - 1 = k + 3 * -1 + 1 := by omega
      have e3 : k + 3 * 1 + 3 * -1 = k + 3 * -1 + 3 * 1 := by omega
      rw [e1, e2, e3]
      omega
  · refine Prod.ext (funext fun k => ?_) (funext fun k => ?_)
    · show s.1 (k - -1 - 1) = s.1 (k - 1 - -1)
      rw [show k - 1 - -1 = k - -1 - 1 by omega]
    · show s.1 (k + -1 - 1) - (s.1 (k + 3 * -1 + 1) - s.2 (k + 3 * -1 + 3 * 1)) = s.1 (k + 1 - -1) - (s.1 (k + 3 * 1 + -1) - s.2 (k + 3 * 1 + 3 * -1))
      have e1 : k + 1 - -1 = k + 3 * 1 + -1 := by omega
      have e2 : k + -1 - 1 = k + 3 * -1 + 1 := by omega
      have e3 : k + 3 * 1 + 3 * -1 = k + 3 * -1 + 3 * 1 := by omega
      rw [e1, e2, e3]
      omega
  · rfl
theorem tw_perm {a b : List Int} (h : a.Perm b) (p : ∀ x ∈ a, Pm x) (s : Cf × Cf) : a.foldl (fun s w => Tw w s) s = b.foldl (fun s w => Tw w s) s := by
  induction h generalizing s with
  | nil => rfl
  | cons x _ ih => exact ih (fun y hy => p y (List.mem_cons_of_mem _ hy)) _
  | swap x y l =>
    rw [List.foldl_cons, List.foldl_cons, List.foldl_cons, List.foldl_cons, tw_comm (p x (by simp)) (p y (by simp))]
  | trans h1 _ i1 i2 => rw [i1 p, i2 fun x hx => p x (h1.mem_iff.mpr hx)]
/-! growth of a store -/
theorem two1 {p : Int × Int} (h : p.1 ≠ p.2 := by decide) : Two [p] := ⟨by simp, fun q hq => by rw [List.mem_singleton.mp hq]; exact h⟩
theorem two2 {p q : Int × Int} (h : p.1 ≠ p.2 := by decide) (h2 : q.1 ≠ q.2 := by decide) : Two [p, q] := ⟨by simp, fun r hr => by
  rcases List.mem_cons.mp hr with e | e
  · rw [e]; exact h
  · rw [List.mem_singleton.mp e]; exact h2⟩
theorem two0 : Two [] := ⟨by simp, fun q hq => nomatch hq⟩
section
variable {g : Int → Int} {st : List (PL × PL)} {w : Int} {t : Nat}
/-- two keys go to two keys -/
theorem grow2 (h : Inj g) {τ : List Int} {L U L' U' : PL} (tL : Two L) (tU : Two U) (kn : key g L ≠ key g U) (c1 : chk τ L L' U' 0 0 = true) (c2 : chk τ U U' U' 0 1 = true) (hw : Pm w) (ht : t = 0 ∨ t = 2) {s : Cf × Cf}
    (r : Rep st [(key g L, s.1), (key g U, s.2)]) : Rep (storeBehind st ((rl τ (cr w t)).map g)) [(key g L', (Tw w s).1), (key g U', (Tw w s).2)] := by
  obtain ⟨z1, z2⟩ := behind_rep ((rl τ (cr w t)).map g) (by simp [kn]) r
  refine ⟨z1, fun J k => ?_⟩
  rw [z2]
  show (ctr _ J (key g L) s.1 0 k + ctr _ J (key g L) s.1 1 k) + ((ctr _ J (key g U) s.2 0 k + ctr _ J (key g U) s.2 1 k) + 0) = (if J = key g L' then (Tw w s).1 k else 0) + ((if J = key g U' then (Tw w s).2 k else 0) + 0)
  rw [ctr_chk h tL c1 hw ht, ctr_chk h tU c2 hw ht]
  have e := cw_eq hw s.2 k
  unfold Cw at e
  show (if J = key g L' then s.1 (k - w) else 0) + (if J = key g U' then s.1 (k + w) else 0) + ((if J = key g U' then s.2 (k - w) else 0) + (if J = key g U' then dl (fun k => s.2 (k + w)) k else 0) + 0) = (if J = key g L' then s.1 (k - w) else 0) + ((if J = key g U' then s.1 (k + w) - s.2 (k + 3 * w) else 0) + 0)
  by_cases a : J = key g U'
  · rw [if_pos a, if_pos a, if_pos a, if_pos a]
    omega
  · rw [if_neg a, if_neg a, if_neg a, if_neg a]
    omega
/-- the first crossing -/
theorem grow0 (h : Inj g) {τ : List Int} {L' U' : PL} (c1 : chk τ [] L' U' 0 0 = true) (hw : Pm w) (ht : t = 0 ∨ t = 2) {z : Cf}
    (r : Rep st [(key g [], z)]) : Rep (storeBehind st ((rl τ (cr w t)).map g)) [(key g L', (Tw w (z, fun _ => 0)).1), (key g U', (Tw w (z, fun _ => 0)).2)] := by
  obtain ⟨z1, z2⟩ := behind_rep ((rl τ (cr w t)).map g) (by simp) r
  refine ⟨z1, fun J k => ?_⟩
  rw [z2]
  show (ctr _ J (key g []) z 0 k + ctr _ J (key g []) z 1 k) + 0 = (if J = key g L' then z (k - w) else 0) + ((if J = key g U' then z (k + w) - 0 else 0) + 0)
  rw [ctr_chk h two0 c1 hw ht]
  show (if J = key g L' then z (k - w) else 0) + (if J = key g U' then z (k + w) else 0) + 0 = _
  rw [Int.sub_zero]
  omega
/-- two keys close -/
theorem close2 (h : Inj g) {τ : List Int} {L U : PL} (tL : Two L) (tU : Two U) (kn : key g L ≠ key g U) (c1 : chk τ L [] [] 2 1 = true) (c2 : chk τ U [] [] 1 2 = true) (hw : Pm w) (ht : t = 0 ∨ t = 2) {s : Cf × Cf}
    (r : Rep st [(key g L, s.1), (key g U, s.2)]) : Rep (storeBehind st ((rl τ (cr w t)).map g)) [(key g [], fun k => dls (Tw w s).1 2 k + dl (Tw w s).2 k)] := by
  obtain ⟨z1, z2⟩ := behind_rep ((rl τ (cr w t)).map g) (by simp [kn]) r
  refine ⟨z1, fun J k => ?_⟩
  rw [z2]
  show (ctr _ J (key g L) s.1 0 k + ctr _ J (key g L) s.1 1 k) + ((ctr _ J (key g U) s.2 0 k + ctr _ J (key g U) s.2 1 k) + 0) = (if J = key g [] then dls (Tw w s).1 2 k + dl (Tw w s).2 k else 0) + 0
  rw [ctr_chk h tL c1 hw ht, ctr_chk h tU c2 hw ht]
  have e := dl_cw hw s.2 k
  have e2 : dl (Cw w s.2) k = -dl (fun k => s.2 (k + 3 * w)) k := dl_neg _ k
  have e3 : dl (Tw w s).2 k = dl (fun k => s.1 (k + w)) k - dl (fun k => s.2 (k + 3 * w)) k := dl_sub _ _ k
  rw [e3]
  by_cases a : J = key g []
  · rw [if_pos a, if_pos a, if_pos a, if_pos a, if_pos a]
    show dls (fun k => s.1 (k - w)) 2 k + dl (fun k => s.1 (k + w)) k + (dl (fun k => s.2 (k - w)) k + dl (dl fun k => s.2 (k + w)) k + 0) = dls (fun k => s.1 (k - w)) 2 k + _ + 0
    omega
  · rw [if_neg a, if_neg a, if_neg a, if_neg a, if_neg a]
    rfl
/-- one crossing, both its sides the same junction -/
theorem close0 (h : Inj g) {τ : List Int} (c1 : chk τ [] [] [] 2 1 = true) (hw : Pm w) (ht : t = 0 ∨ t = 2) {z : Cf}
    (r : Rep st [(key g [], z)]) : Rep (storeBehind st ((rl τ (cr w t)).map g)) [(key g [], fun k => dls (Tw w (z, fun _ => 0)).1 2 k + dl (Tw w (z, fun _ => 0)).2 k)] := by
  obtain ⟨z1, z2⟩ := behind_rep ((rl τ (cr w t)).map g) (by simp) r
  refine ⟨z1, fun J k => ?_⟩
  rw [z2]
  show (ctr _ J (key g []) z 0 k + ctr _ J (key g []) z 1 k) + 0 = (if J = key g [] then dls (fun k => z (k - w)) 2 k + dl (fun k => z (k + w) - 0) k else 0) + 0
  rw [ctr_chk h two0 c1 hw ht]
  have : (fun k => z (k + w) - 0) = fun k => z (k + w) := funext fun k => Int.sub_zero _
  rw [this]
  by_cases a : J = key g []
  · rw [if_pos a, if_pos a, if_pos a]; rfl
  · rw [if_neg a, if_neg a, if_neg a]; rfl
/-- one key goes to one key -/
theorem grow1 (h : Inj g) {τ : List Int} {M M' : PL} (tM : Two M) (c1 : chk τ M M' M' 0 1 = true) (hw : Pm w) (ht : t = 0 ∨ t = 2) {z : Cf}
    (r : Rep st [(key g M, z)]) : Rep (storeBehind st ((rl τ (cr w t)).map g)) [(key g M', Cw w z)] := by
  obtain ⟨z1, z2⟩ := behind_rep ((rl τ (cr w t)).map g) (by simp) r
  refine ⟨z1, fun J k => ?_⟩
  rw [z2]
  show (ctr _ J (key g M) z 0 k + ctr _ J (key g M) z 1 k) + 0 = (if J = key g M' then Cw w z k else 0) + 0
  rw [ctr_chk h tM c1 hw ht, ← cw_eq hw z k]
  by_cases a : J = key g M'
  · rw [if_pos a, if_pos a, if_pos a]; rfl
  · rw [if_neg a, if_neg a, if_neg a]; rfl
/-- one key closes -/
theorem close1 (h : Inj g) {τ : List Int} {M : PL} (tM : Two M) (c1 : chk τ M [] [] 1 2 = true) (hw : Pm w) (ht : t = 0 ∨ t = 2) {z : Cf}
    (r : Rep st [(key g M, z)]) : Rep (storeBehind st ((rl τ (cr w t)).map g)) [(key g [], dl (Cw w z))] := by
  obtain ⟨z1, z2⟩ := behind_rep ((rl τ (cr w t)).map g) (by simp) r
  refine ⟨z1, fun J k => ?_⟩
  rw [z2]
  show (ctr _ J (key g M) z 0 k + ctr _ J (key g M) z 1 k) + 0 = (if J = key g [] then dl (Cw w z) k else 0) + 0
  rw [ctr_chk h tM c1 hw ht, ← dl_cw hw z k]
  by_cases a : J = key g []
  · rw [if_pos a, if_pos a, if_pos a]; rfl
  · rw [if_neg a, if_neg a, if_neg a]; rfl
end
end TH
end
section
set_option Elab.async false
set_option linter.all false
namespace TH
/-! the open arcs -/
theorem ob_perm : ∀ (c : List Int) {A B : List Int}, A.Perm B → (openB A c).Perm (openB B c)
  | [], _, _, h => h
  | a :: c, A, B, h => by
    show (openB (if a ∈ A then A.filter (fun x => decide (x ≠ a)) else A ++ [a]) c).Perm (openB (if a ∈ B then B.filter (fun x => decide (x ≠ a)) else B ++ [a]) c)
    by_cases m : a ∈ A
    · rw [if_pos m, if_pos (h.mem_iff.mp m)]
      exact ob_perm c (h.filter _)
    · rw [if_neg m, if_neg (fun z => m (h.mem_iff.mpr z))]
      exact ob_perm c (h.append_right _)
def fchk (τ F F' : List Int) : Bool := [(1 : Int), -1].all fun w => [0, 2].all fun t => (openB F (rl τ (cr w t))).isPerm F'
theorem fchk_ok {g : Int → Int} (h : Inj g) {τ F F' A : List Int} (ck : fchk τ F F' = true) {w : Int} {t : Nat} (hw : Pm w) (ht : t = 0 ∨ t = 2) (p : A.Perm (F.map g)) : (openB A ((rl τ (cr w t)).map g)).Perm (F'.map g) := by
  unfold fchk at ck
  rw [List.all_eq_true] at ck
  have a := ck w (by rcases hw with rfl | rfl <;> simp)
  rw [List.all_eq_true] at a
  have b := a t (by rcases ht with rfl | rfl <;> simp)
  rw [List.isPerm_iff] at b
  refine (ob_perm _ p).trans ?_
  rw [openB_mp h]
  exact b.map g
theorem f_right : fchk idl [4, 5, 0, 1] [4, 5, 2, 3] = true := by decide +kernel
theorem f_left : fchk idl [2, 3, 4, 5] [0, 1, 4, 5] = true := by decide +kernel
theorem f_first : fchk idl [] [0, 1, 2, 3] = true := by decide +kernel
theorem f_close : fchk idl [2, 3, 0, 1] [] = true := by decide +kernel
theorem f_cyc1 : fchk [0, 1, 0, 1] [] [] = true := by decide +kernel
theorem f_far : fchk idl [4, 5, 6, 7] [4, 5, 6, 7, 0, 1, 2, 3] = true := by decide +kernel
theorem f_capL : fchk [0, 0, 1, 2] [] [1, 2] = true := by decide +kernel
theorem f_capR : fchk [0, 1, 2, 2] [] [0, 1] = true := by decide +kernel
theorem f_capLR : fchk [0, 0, 1, 1] [] [] = true := by decide +kernel
theorem f_cr : fchk idl [0, 1] [2, 3] = true := by decide +kernel
theorem f_cl : fchk idl [2, 3] [0, 1] = true := by decide +kernel
theorem f_lastR : fchk [0, 1, 2, 2] [0, 1] [] = true := by decide +kernel
theorem f_lastL : fchk [0, 0, 1, 2] [1, 2] [] = true := by decide +kernel
theorem f_far2 : fchk idl [4, 5] [4, 5, 0, 1, 2, 3] = true := by decide +kernel
theorem f_farR : fchk [0, 1, 2, 2] [3, 4] [3, 4, 0, 1] = true := by decide +kernel
theorem f_farL : fchk [0, 0, 1, 2] [3, 4] [3, 4, 1, 2] = true := by decide +kernel
/-! the same with the arcs by name -/
def Xc (a b c d : Int) (w : Int) (t : Nat) : List Int := rot t (if 0 < w then rot 1 [a, b, d, c] else [a, b, d, c])
theorem xc_g {a b c d : Int} {w : Int} {t : Nat} (hw : Pm w) (ht : t = 0 ∨ t = 2) (tl : List Int) : Xc a b c d w t = (rl idl (cr w t)).map (gL (a :: b :: c :: d :: tl)) := by
  rcases hw with rfl | rfl <;> rcases ht with rfl | rfl <;> rfl
theorem xc_cyc {a b : Int} {w : Int} {t : Nat} (hw : Pm w) (ht : t = 0 ∨ t = 2) : Xc a b a b w t = (rl [0, 1, 0, 1] (cr w t)).map (gL [a, b]) := by
  rcases hw with rfl | rfl <;> rcases ht with rfl | rfl <;> rfl
theorem xc_capL {a c d : Int} {w : Int} {t : Nat} (hw : Pm w) (ht : t = 0 ∨ t = 2) (tl : List Int) : Xc a a c d w t = (rl [0, 0, 1, 2] (cr w t)).map (gL (a :: c :: d :: tl)) := by
  rcases hw with rfl | rfl <;> rcases ht with rfl | rfl <;> rfl
theorem xc_capR {a b c : Int} {w : Int} {t : Nat} (hw : Pm w) (ht : t = 0 ∨ t = 2) (tl : List Int) : Xc a b c c w t = (rl [0, 1, 2, 2] (cr w t)).map (gL (a :: b :: c :: tl)) := by
  rcases hw with rfl | rfl <;> rcases ht with rfl | rfl <;> rfl
theorem xc_capLR {a c : Int} {w : Int} {t : Nat} (hw : Pm w) (ht : t = 0 ∨ t = 2) : Xc a a c c w t = (rl [0, 0, 1, 1] (cr w t)).map (gL [a, c]) := by
  rcases hw with rfl | rfl <;> rcases ht with rfl | rfl <;> rfl
def KL (a b c d : Int) : PL := openJoin [(a, c), (b, d), (c, a), (d, b)]
def KU (a b c d : Int) : PL := openJoin [(a, b), (c, d), (b, a), (d, c)]
def K1 (a b : Int) : PL := openJoin [(a, b), (b, a)]
theorem k0 : openJoin [] = [] := List.perm_nil.mp (sortP_perm [])
/-- distinct arcs -/
def Ds (l : List Int) : Prop := l.Nodup ∧ ∀ v ∈ l, 0 ≤ v
theorem Ds.inj {l : List Int} (h : Ds l) : Inj (gL l) := gL_inj h.1 h.2
def Two2 (s : Cf × Cf) (a b c d : Int) (st : List (PL × PL)) : Prop := Rep st [(KL a b c d, s.1), (KU a b c d, s.2)]
theorem kne {a b c d : Int} (h : Ds [a, b, c, d]) : KL a b c d ≠ KU a b c d := by
  have := key_ne h.inj (M := [(0, 2), (1, 3)]) (N := [(0, 1), (2, 3)]) two2 two2 (by decide +kernel)
  exact this
section
variable {a b c d p q r s : Int} {w : Int} {t : Nat} {A : List Int} {st : List (PL × PL)} {z : Cf × Cf}
theorem g_right (h : Ds [a, b, c, d, p, q]) (hw : Pm w) (ht : t = 0 ∨ t = 2) (hA : A.Perm [p, q, a, b]) (hs : Two2 z p q a b st) :
    (openB A (Xc a b c d w t)).Perm [p, q, c, d] ∧ Two2 (Tw w z) p q c d (storeBehind st (Xc a b c d w t)) := by
  rw [xc_g hw ht [p, q]]
  have kn : KL p q a b ≠ KU p q a b := key_ne h.inj (M := [(4, 0), (5, 1)]) (N := [(4, 5), (0, 1)]) two2 two2 (by decide +kernel)
  exact ⟨fchk_ok h.inj f_right hw ht hA, grow2 h.inj (L := [(4, 0), (5, 1)]) (U := [(4, 5), (0, 1)]) (L' := [(4, 2), (5, 3)]) (U' := [(4, 5), (2, 3)]) two2 two2 kn t_rightL t_rightU hw ht hs⟩
theorem g_left (h : Ds [a, b, c, d, p, q]) (hw : Pm w) (ht : t = 0 ∨ t = 2) (hA : A.Perm [c, d, p, q]) (hs : Two2 z c d p q st) :
    (openB A (Xc a b c d w t)).Perm [a, b, p, q] ∧ Two2 (Tw w z) a b p q (storeBehind st (Xc a b c d w t)) := by
  rw [xc_g hw ht [p, q]]
  have kn : KL c d p q ≠ KU c d p q := key_ne h.inj (M := [(2, 4), (3, 5)]) (N := [(2, 3), (4, 5)]) two2 two2 (by decide +kernel)
  exact ⟨fchk_ok h.inj f_left hw ht hA, grow2 h.inj (L := [(2, 4), (3, 5)]) (U := [(2, 3), (4, 5)]) (L' := [(0, 4), (1, 5)]) (U' := [(0, 1), (4, 5)]) two2 two2 kn t_leftL t_leftU hw ht hs⟩
theorem g_first {y : Cf} (h : Ds [a, b, c, d]) (hw : Pm w) (ht : t = 0 ∨ t = 2) (hs : Rep st [([], y)]) :
    (openB [] (Xc a b c d w t)).Perm [a, b, c, d] ∧ Two2 (Tw w (y, fun _ => 0)) a b c d (storeBehind st (Xc a b c d w t)) := by
  rw [xc_g hw ht []]
  exact ⟨fchk_ok h.inj f_first hw ht (List.Perm.refl _), grow0 h.inj (L' := [(0, 2), (1, 3)]) (U' := [(0, 1), (2, 3)]) t_first hw ht (by rw [show key (gL [a, b, c, d]) [] = [] from k0]; exact hs)⟩
theorem g_close (h : Ds [a, b, c, d]) (hw : Pm w) (ht : t = 0 ∨ t = 2) (hA : A.Perm [c, d, a, b]) (hs : Two2 z c d a b st) :
    (openB A (Xc a b c d w t)).Perm [] ∧ Rep (storeBehind st (Xc a b c d w t)) [([], fun k => dls (Tw w z).1 2 k + dl (Tw w z).2 k)] := by
  rw [xc_g hw ht []]
  have kn : KL c d a b ≠ KU c d a b := key_ne h.inj (M := [(2, 0), (3, 1)]) (N := [(2, 3), (0, 1)]) two2 two2 (by decide +kernel)
  have := close2 h.inj (L := [(2, 0), (3, 1)]) (U := [(2, 3), (0, 1)]) two2 two2 kn t_closeL t_closeU hw ht hs
  rw [show key (gL [a, b, c, d]) [] = [] from k0] at this
  exact ⟨fchk_ok h.inj f_close hw ht hA, this⟩
theorem g_cyc1 {y : Cf} (h : Ds [a, b]) (hw : Pm w) (ht : t = 0 ∨ t = 2) (hs : Rep st [([], y)]) :
    (openB [] (Xc a b a b w t)).Perm [] ∧ Rep (storeBehind st (Xc a b a b w t)) [([], fun k => dls (Tw w (y, fun _ => 0)).1 2 k + dl (Tw w (y, fun _ => 0)).2 k)] := by
  rw [xc_cyc hw ht]
  have := close0 h.inj t_cyc1 hw ht (z := y) (st := st) (by rw [show key (gL [a, b]) [] = [] from k0]; exact hs)
  rw [show key (gL [a, b]) [] = [] from k0] at this
  exact ⟨fchk_ok h.inj f_cyc1 hw ht (List.Perm.refl _), this⟩
theorem g_far (h : Ds [a, b, c, d, p, q, r, s]) (hw : Pm w) (ht : t = 0 ∨ t = 2) (hA : A.Perm [p, q, r, s]) : (openB A (Xc a b c d w t)).length = 8 := by
  rw [xc_g hw ht [p, q, r, s]]
  have := fchk_ok h.inj f_far hw ht hA
  exact this.length_eq
/-! capped -/
theorem g_capL {y : Cf} (h : Ds [a, c, d]) (hw : Pm w) (ht : t = 0 ∨ t = 2) (hs : Rep st [([], y)]) : (openB [] (Xc a a c d w t)).Perm [c, d] ∧ Rep (storeBehind st (Xc a a c d w t)) [(K1 c d, Cw w y)] := by
  rw [xc_capL hw ht []]
  exact ⟨fchk_ok h.inj f_capL hw ht (List.Perm.refl _), grow1 h.inj (M' := [(1, 2)]) two0 t_capL hw ht (by rw [show key (gL [a, c, d]) [] = [] from k0]; exact hs)⟩
theorem g_capR {y : Cf} (h : Ds [a, b, c]) (hw : Pm w) (ht : t = 0 ∨ t = 2) (hs : Rep st [([], y)]) : (openB [] (Xc a b c c w t)).Perm [a, b] ∧ Rep (storeBehind st (Xc a b c c w t)) [(K1 a b, Cw w y)] := by
  rw [xc_capR hw ht []]
  exact ⟨fchk_ok h.inj f_capR hw ht (List.Perm.refl _), grow1 h.inj (M' := [(0, 1)]) two0 t_capR hw ht (by rw [show key (gL [a, b, c]) [] = [] from k0]; exact hs)⟩
theorem g_capLR {y : Cf} (h : Ds [a, c]) (hw : Pm w) (ht : t = 0 ∨ t = 2) (hs : Rep st [([], y)]) : (openB [] (Xc a a c c w t)).Perm [] ∧ Rep (storeBehind st (Xc a a c c w t)) [([], dl (Cw w y))] := by
  rw [xc_capLR hw ht]
  have := close1 h.inj two0 t_capLR hw ht (z := y) (st := st) (by rw [show key (gL [a, c]) [] = [] from k0]; exact hs)
  rw [show key (gL [a, c]) [] = [] from k0] at this
  exact ⟨fchk_ok h.inj f_capLR hw ht (List.Perm.refl _), this⟩
theorem g_cr {y : Cf} (h : Ds [a, b, c, d]) (hw : Pm w) (ht : t = 0 ∨ t = 2) (hA : A.Perm [a, b]) (hs : Rep st [(K1 a b, y)]) : (openB A (Xc a b c d w t)).Perm [c, d] ∧ Rep (storeBehind st (Xc a b c d w t)) [(K1 c d, Cw w y)] := by
  rw [xc_g hw ht []]
  exact ⟨fchk_ok h.inj f_cr hw ht hA, grow1 h.inj (M := [(0, 1)]) (M' := [(2, 3)]) two1 t_cr hw ht hs⟩
theorem g_cl {y : Cf} (h : Ds [a, b, c, d]) (hw : Pm w) (ht : t = 0 ∨ t = 2) (hA : A.Perm [c, d]) (hs : Rep st [(K1 c d, y)]) : (openB A (Xc a b c d w t)).Perm [a, b] ∧ Rep (storeBehind st (Xc a b c d w t)) [(K1 a b, Cw w y)] := by
  rw [xc_g hw ht []]
  exact ⟨fchk_ok h.inj f_cl hw ht hA, grow1 h.inj (M := [(2, 3)]) (M' := [(0, 1)]) two1 t_cl hw ht hs⟩
theorem g_lastR {y : Cf} (h : Ds [a, b, c]) (hw : Pm w) (ht : t = 0 ∨ t = 2) (hA : A.Perm [a, b]) (hs : Rep st [(K1 a b, y)]) : (openB A (Xc a b c c w t)).Perm [] ∧ Rep (storeBehind st (Xc a b c c w t)) [([], dl (Cw w y))] := by
  rw [xc_capR hw ht []]
  have := close1 h.inj (M := [(0, 1)]) two1 t_lastR hw ht hs
  rw [show key (gL [a, b, c]) [] = [] from k0] at this
  exact ⟨fchk_ok h.inj f_lastR hw ht hA, this⟩
theorem g_lastL {y : Cf} (h : Ds [a, c, d]) (hw : Pm w) (ht : t = 0 ∨ t = 2) (hA : A.Perm [c, d]) (hs : Rep st [(K1 c d, y)]) : (openB A (Xc a a c d w t)).Perm [] ∧ Rep (storeBehind st (Xc a a c d w t)) [([], dl (Cw w y))] := by
  rw [xc_capL hw ht []]
  have := close1 h.inj (M := [(1, 2)]) two1 t_lastL hw ht hs
  rw [show key (gL [a, c, d]) [] = [] from k0] at this
  exact ⟨fchk_ok h.inj f_lastL hw ht hA, this⟩
theorem l_first (h : Ds [a, b, c, d]) (hw : Pm w) (ht : t = 0 ∨ t = 2) : (openB [] (Xc a b c d w t)).length = 4 := by
  rw [xc_g hw ht []]
  exact (fchk_ok h.inj f_first hw ht (List.Perm.refl _)).length_eq
theorem l_far2 (h : Ds [a, b, c, d, p, q]) (hw : Pm w) (ht : t = 0 ∨ t = 2) (hA : A.Perm [p, q]) : (openB A (Xc a b c d w t)).length = 6 := by
  rw [xc_g hw ht [p, q]]
  exact (fchk_ok h.inj f_far2 hw ht hA).length_eq
theorem l_farR (h : Ds [a, b, c, p, q]) (hw : Pm w) (ht : t = 0 ∨ t = 2) (hA : A.Perm [p, q]) : (openB A (Xc a b c c w t)).length = 4 := by
  rw [xc_capR hw ht [p, q]]
  exact (fchk_ok h.inj f_farR hw ht hA).length_eq
theorem l_farL (h : Ds [a, c, d, p, q]) (hw : Pm w) (ht : t = 0 ∨ t = 2) (hA : A.Perm [p, q]) : (openB A (Xc a a c d w t)).length = 4 := by
  rw [xc_capL hw ht [p, q]]
  exact (fchk_ok h.inj f_farL hw ht hA).length_eq
end
end TH
end
section
set_option Elab.async false
set_option linter.all false
namespace TH
/-! what holds behind each crossing taken -/
theorem tak_inv {cs : List (List Int)} {I : List Int → List Nat → List (PL × PL) → Prop} (step : ∀ A L st k, I A L st → Best cs A L k → I (openB A (cs.getD k [])) (L.erase k) (storeBehind st (cs.getD k [])) ∧ (openB A (cs.getD k [])).length ≤ 8)
    {A : List Int} {L : List Nat} {res : List (Nat × List Int)} (h : Tak cs A L res) : ∀ st, I A L st → (∀ e ∈ res, e.2.length ≤ 8) ∧ (∀ i, ∃ A' L', I A' L' (((res.map (·.1)).take i).foldl (fun st k => storeBehind st (cs.getD k [])) st)) ∧
      ∃ A', I A' [] ((res.map (·.1)).foldl (fun st k => storeBehind st (cs.getD k [])) st) := by
  induction h with
  | nil A => exact fun st i => ⟨fun e he => (nomatch he), fun j => ⟨A, [], by rw [List.map_nil, List.take_nil]; exact i⟩, A, i⟩
  | @cons A L k rest hb t ih =>
    intro st i
    obtain ⟨s1, s2⟩ := step A L st k i hb
    obtain ⟨h1, h2, h3⟩ := ih _ s1
    refine ⟨fun e he => ?_, fun j => ?_, h3⟩
    · rcases List.mem_cons.mp he with z | z
      · rw [z]; exact s2
      · exact h1 e z
    · cases j with
      | zero => exact ⟨A, L, i⟩
      | succ j => exact h2 j
/-- a web by its twists: crossing j is twist tf j -/
structure Webd (n : Nat) (Tf : Nat → Int) (Ux Lx Ur Lr : Nat → Int) (cs : List (List Int)) (tf : Nat → Nat) : Prop where
  len : cs.length = n
  pm : ∀ x, x < n → Pm (Tf x)
  at_ : ∀ j, j < n → ∃ t, (t = 0 ∨ t = 2) ∧ cs.getD j [] = Xc (Ux (tf j)) (Lx (tf j)) (Ur (tf j)) (Lr (tf j)) (Tf (tf j)) t
  perm : ((List.range n).map tf).Perm (List.range n)
/-- the taken twists tk and the crossings L that are left -/
def Bk (n : Nat) (tf : Nat → Nat) (tk : List Nat) (L : List Nat) : Prop := (tk ++ L.map tf).Perm (List.range n) ∧ ∀ j ∈ L, j < n
section
variable {n : Nat} {Tf : Nat → Int} {Ux Lx Ur Lr : Nat → Int} {cs : List (List Int)} {tf : Nat → Nat} {tk L : List Nat}
theorem Bk.init (W : Webd n Tf Ux Lx Ur Lr cs tf) : Bk n tf [] (List.range n) := ⟨W.perm, fun j h => List.mem_range.mp h⟩
theorem Bk.step (h : Bk n tf tk L) {k : Nat} (hk : k ∈ L) : Bk n tf (tk ++ [tf k]) (L.erase k) := by
  refine ⟨?_, fun j hj => h.2 j (List.mem_of_mem_erase hj)⟩
  refine List.Perm.trans ?_ h.1
  rw [List.append_assoc]
  refine List.Perm.append_left _ ?_
  show (tf k :: (L.erase k).map tf).Perm (L.map tf)
  exact ((List.perm_cons_erase hk).map tf).symm
theorem Bk.nodup (h : Bk n tf tk L) : (tk ++ L.map tf).Nodup := h.1.nodup_iff.mpr List.nodup_range
theorem Bk.lt (h : Bk n tf tk L) {x : Nat} (hx : x ∈ tk) : x < n := List.mem_range.mp (h.1.mem_iff.mp (List.mem_append_left _ hx))
theorem Bk.out (h : Bk n tf tk L) {k : Nat} (hk : k ∈ L) : tf k ∉ tk ∧ tf k < n := by
  have m : tf k ∈ L.map tf := List.mem_map.mpr ⟨k, hk, rfl⟩
  exact ⟨fun z => (List.nodup_append.mp h.nodup).2.2 _ z _ m rfl, List.mem_range.mp (h.1.mem_iff.mp (List.mem_append_right _ m))⟩
theorem Bk.find (h : Bk n tf tk L) {x : Nat} (hx : x < n) (m : x ∉ tk) : ∃ k ∈ L, tf k = x := by
  have z := h.1.mem_iff.mpr (List.mem_range.mpr hx)
  exact List.mem_map.mp ((List.mem_append.mp z).resolve_left m)
theorem Bk.tklen (h : Bk n tf tk L) : tk.length ≤ n := by
  have := h.1.length_eq
  rw [List.length_append, List.length_range] at this
  omega
theorem Bk.done (h : Bk n tf tk []) : tk.Perm (List.range n) := by
  have := h.1
  rw [List.map_nil, List.append_nil] at this
  exact this
/-- the rows of numbers behind the twists tk -/
def sT (Tf : Nat → Int) (tk : List Nat) : Cf × Cf := (tk.map Tf).foldl (fun s w => Tw w s) (cf pONE, fun _ => 0)
theorem sT_snoc (tk : List Nat) (x : Nat) : sT Tf (tk ++ [x]) = Tw (Tf x) (sT Tf tk) := by
  unfold sT
  rw [List.map_append, List.foldl_append]
  rfl
theorem Bk.rows (W : Webd n Tf Ux Lx Ur Lr cs tf) (h : Bk n tf tk []) : sT Tf tk = sT Tf (List.range n) := by
  unfold sT
  refine tw_perm (h.done.map Tf) (fun w hw => ?_) _
  obtain ⟨x, hx, rfl⟩ := List.mem_map.mp hw
  exact W.pm x (h.lt hx)
end
theorem store0_rep : Rep store0 [([], cf pONE)] := by
  refine ⟨⟨⟨by decide, fun e he => ?_⟩, fun e he => ?_⟩, fun J k => ?_⟩
  · rw [List.mem_singleton.mp he]
    exact ⟨List.pairwise_singleton _ _, fun x hx => by rw [List.mem_singleton.mp hx]; decide⟩
  · rw [List.mem_singleton.mp he]
    exact fun z => nomatch z
  · show sc [([], pONE)] J k = (if J = [] then cf pONE k else 0) + 0
    rw [sc_cons]
    by_cases h : J = []
    · rw [if_pos h, if_pos h.symm, Int.add_zero]
    · rw [if_neg h, if_neg (fun z => h z.symm)]
      rfl
/-! how far the numbers reach -/
theorem sup_one : Sup 0 (cf pONE) := fun k hk => by
  show cf [(0, 1)] k = 0
  rw [cf_cons, if_neg (by show ¬ (0 : Int) = k; omega)]
  rfl
def Sup2 (B : Nat) (s : Cf × Cf) : Prop := Sup B s.1 ∧ Sup B s.2
theorem Sup2.tw {B : Nat} {s : Cf × Cf} {w : Int} (hw : Pm w) (h : Sup2 B s) : Sup2 (B + 3) (Tw w s) := by
  constructor
  · intro k hk
    show s.1 (k - w) = 0
    refine h.1 _ ?_
    rcases hw with rfl | rfl <;> omega
  · intro k hk
    show s.1 (k + w) - s.2 (k + 3 * w) = 0
    rw [h.1 (k + w) (by rcases hw with rfl | rfl <;> omega), h.2 (k + 3 * w) (by rcases hw with rfl | rfl <;> omega)]
    rfl
theorem Sup.cw {B : Nat} {f : Cf} {w : Int} (hw : Pm w) (h : Sup B f) : Sup (B + 3) (Cw w f) := fun k hk => by
  unfold Cw
  rw [h (k + 3 * w) (by rcases hw with rfl | rfl <;> omega)]
  rfl
theorem sup_fold : ∀ (l : List Int) {B : Nat} {s : Cf × Cf}, (∀ x ∈ l, Pm x) → Sup2 B s → Sup2 (B + 3 * l.length) (l.foldl (fun s w => Tw w s) s)
  | [], B, s, _, h => h
  | w :: l, B, s, p, h => by
    have z := sup_fold l (fun x hx => p x (List.mem_cons_of_mem _ hx)) (h.tw (p w List.mem_cons_self))
    have e : B + 3 + 3 * l.length = B + 3 * (w :: l).length := by rw [List.length_cons]; omega
    rw [e] at z
    exact z
/-! a store that is fit for the walk -/
theorem openJoin_len (s : PL) : (openJoin s).length ≤ s.length := by
  unfold openJoin
  rw [(sortP_perm _).length_eq]
  exact List.length_filter_le _ _
theorem rep_key {st : List (PL × PL)} {l : List (PL × Cf)} (h : Rep st l) {e : PL × PL} (he : e ∈ st) : e.1 ∈ l.map (·.1) := by
  rcases Decidable.em (e.1 ∈ l.map (·.1)) with z | z
  · exact z
  · exfalso
    refine h.1.2 e he (can_nil_of (h.1.1.2 e he) fun k => ?_)
    have := h.2 e.1 k
    unfold sc at this
    rw [sgt_mem h.1.1.1 he] at this
    rw [show cf e.2 k = cf ((some e.2).getD []) k from rfl, this]
    refine sum_zero fun x hx => ?_
    rw [if_neg]
    intro y
    exact z (List.mem_map.mpr ⟨x, hx, y.symm⟩)
theorem rep_len {st : List (PL × PL)} {l : List (PL × Cf)} (h : Rep st l) : st.length ≤ l.length := by
  have := subset_len (b := l.map (·.1)) h.1.1.1 fun x hx => by
    obtain ⟨e, he, rfl⟩ := List.mem_map.mp hx
    exact rep_key h he
  rw [List.length_map, List.length_map] at this
  exact this
theorem rep_sup {st : List (PL × PL)} {l : List (PL × Cf)} {B : Nat} (h : Rep st l) (s : ∀ x ∈ l, Sup B x.2) {e : PL × PL} (he : e ∈ st) : e.2.length ≤ 2 * B + 1 := by
  refine can_len (h.1.1.2 e he) fun k hk => ?_
  have := h.2 e.1 k
  unfold sc at this
  rw [sgt_mem h.1.1.1 he] at this
  rw [show cf e.2 k = cf ((some e.2).getD []) k from rfl, this]
  refine sum_zero fun x hx => ?_
  rw [s x hx k hk]
  split <;> rfl
theorem nodup_mapOn {α β : Type} {f : α → β} : ∀ {l : List α}, l.Nodup → (∀ x ∈ l, ∀ y ∈ l, f x = f y → x = y) → (l.map f).Nodup
  | [], _, _ => List.nodup_nil
  | a :: l, h, i => by
    rw [List.nodup_cons] at h
    rw [List.map_cons, List.nodup_cons]
    refine ⟨fun m => ?_, nodup_mapOn h.2 fun x hx y hy => i x (List.mem_cons_of_mem _ hx) y (List.mem_cons_of_mem _ hy)⟩
    obtain ⟨x, hx, e⟩ := List.mem_map.mp m
    have := i x (List.mem_cons_of_mem _ hx) a List.mem_cons_self e
    exact h.1 (this ▸ hx)
theorem rep_ok {w : PySem.World} {st : List (PL × PL)} {l : List (PL × Cf)} (h : Rep st l) (hl : l.length ≤ 2) (s : ∀ x ∈ l, Sup 249 x.2) (k4 : ∀ x ∈ l, x.1.length ≤ 4) (hh : ∀ x ∈ l, ∀ y ∈ l, hk w x.1 = hk w y.1 → x.1 = y.1) : StOk w st ∧ st.length ≤ 2 := by
  have h1 := rep_len h
  refine ⟨⟨by omega, fun e he => ⟨?_, Nat.le_trans (rep_sup h s he) (by decide)⟩, ?_⟩, by omega⟩
  · obtain ⟨x, hx, e1⟩ := List.mem_map.mp (rep_key h he)
    have := k4 x hx
    rw [← e1]
    omega
  · have e : (st.map fun kv => hk w kv.1) = (st.map (·.1)).map (hk w) := by rw [List.map_map]; rfl
    rw [e]
    refine nodup_mapOn h.1.1.1 fun x hx y hy q => ?_
    obtain ⟨ex, hex, rfl⟩ := List.mem_map.mp hx
    obtain ⟨ey, hey, rfl⟩ := List.mem_map.mp hy
    obtain ⟨x', hx', e1⟩ := List.mem_map.mp (rep_key h hex)
    obtain ⟨y', hy', e2⟩ := List.mem_map.mp (rep_key h hey)
    have := hh x' hx' y' hy' (by rw [e1, e2]; exact q)
    rw [← e1, ← e2, this]
end TH
end
section
set_option Elab.async false
set_option linter.all false
namespace TH
/-- the two joinings of any two junctions have different hashes -/
def HashOk (w : PySem.World) (N : Nat) (U Lo : Nat → Int) : Prop := ∀ i j, i < N → j < N → i ≠ j → hk w (KL (U i) (Lo i) (U j) (Lo j)) ≠ hk w (KU (U i) (Lo i) (U j) (Lo j))
/-- the arcs of junctions are all distinct -/
def DsJ (N : Nat) (U Lo : Nat → Int) : Prop := ∀ js : List Nat, js.Nodup → (∀ x ∈ js, x < N) → Ds (js.flatMap fun x => [U x, Lo x])
theorem pm_row {n : Nat} {Tf : Nat → Int} {Ux Lx Ur Lr : Nat → Int} {cs : List (List Int)} {tf : Nat → Nat} (W : Webd n Tf Ux Lx Ur Lr cs tf) {tk L : List Nat} (b : Bk n tf tk L) (hn : n ≤ 40) : Sup2 120 (sT Tf tk) := by
  have := sup_fold (tk.map Tf) (B := 0) (s := (cf pONE, fun _ => 0)) (fun x hx => by
    obtain ⟨y, hy, rfl⟩ := List.mem_map.mp hx
    exact W.pm y (b.lt hy)) ⟨sup_one, fun k hk => rfl⟩
  rw [List.length_map] at this
  have l := b.tklen
  exact ⟨this.1.mono (by omega), this.2.mono (by omega)⟩
theorem two2_ok {w : PySem.World} {N : Nat} {U Lo : Nat → Int} {st : List (PL × PL)} {s : Cf × Cf} (hH : HashOk w N U Lo) {i j : Nat} (hi : i < N) (hj : j < N) (ne : i ≠ j) (r : Two2 s (U i) (Lo i) (U j) (Lo j) st) (hs : Sup2 120 s) : StOk w st ∧ st.length ≤ 2 := by
  have h := hH i j hi hj ne
  refine rep_ok r (Nat.le_refl 2) (fun x hx => ?_) (fun x hx => ?_) (fun x hx y hy e => ?_)
  · rcases List.mem_cons.mp hx with rfl | hx
    · exact hs.1.mono (by decide)
    · rw [List.mem_singleton.mp hx]; exact hs.2.mono (by decide)
  · rcases List.mem_cons.mp hx with rfl | hx
    · exact openJoin_len _
    · rw [List.mem_singleton.mp hx]; exact openJoin_len _
  · rcases List.mem_cons.mp hx with rfl | hx <;> rcases List.mem_cons.mp hy with rfl | hy
    · rfl
    · rw [List.mem_singleton.mp hy] at e ⊢; exact absurd e h
    · rw [List.mem_singleton.mp hx] at e ⊢; exact absurd e.symm h
    · rw [List.mem_singleton.mp hx, List.mem_singleton.mp hy]
theorem store0_ok (w : PySem.World) : StOk w store0 ∧ store0.length ≤ 2 := by
  refine rep_ok store0_rep (by decide) (fun x hx => ?_) (fun x hx => ?_) (fun x hx y hy e => ?_)
  · rw [List.mem_singleton.mp hx]; exact sup_one.mono (by decide)
  · rw [List.mem_singleton.mp hx]; exact Nat.zero_le _
  · rw [List.mem_singleton.mp hx, List.mem_singleton.mp hy]
section
variable {n : Nat} {Tf : Nat → Int} {U Lo : Nat → Int} {cs : List (List Int)} {tf : Nat → Nat} {w : PySem.World}
def Iopen (n : Nat) (Tf : Nat → Int) (U Lo : Nat → Int) (tf : Nat → Nat) (A : List Int) (L : List Nat) (st : List (PL × PL)) : Prop :=
  ∃ tk, Bk n tf tk L ∧ ((tk = [] ∧ A = [] ∧ st = store0) ∨ ∃ i j, i < j ∧ j ≤ n ∧ (∀ x, x ∈ tk ↔ i ≤ x ∧ x < j) ∧ A.Perm [U i, Lo i, U j, Lo j] ∧ Two2 (sT Tf tk) (U i) (Lo i) (U j) (Lo j) st)
theorem ds4 (hD : DsJ (n + 1) U Lo) {x y : Nat} (h : x ≠ y) (hx : x ≤ n) (hy : y ≤ n) : Ds [U x, Lo x, U y, Lo y] := hD [x, y] (by simp [h]) (by simp; omega)
theorem ds6 (hD : DsJ (n + 1) U Lo) {x y z : Nat} (h : x ≠ y) (h2 : x ≠ z) (h3 : y ≠ z) (hx : x ≤ n) (hy : y ≤ n) (hz : z ≤ n) : Ds [U x, Lo x, U y, Lo y, U z, Lo z] := hD [x, y, z] (by simp [h, h2, h3]) (by simp; omega)
theorem ds8 (hD : DsJ (n + 1) U Lo) {x y z v : Nat} (h : x ≠ y) (h2 : x ≠ z) (h3 : x ≠ v) (h4 : y ≠ z) (h5 : y ≠ v) (h6 : z ≠ v) (hx : x ≤ n) (hy : y ≤ n) (hz : z ≤ n) (hv : v ≤ n) : Ds [U x, Lo x, U y, Lo y, U z, Lo z, U v, Lo v] :=
  hD [x, y, z, v] (by simp [h, h2, h3, h4, h5, h6]) (by simp; omega)
theorem open_step (W : Webd n Tf U Lo (fun x => U (x + 1)) (fun x => Lo (x + 1)) cs tf) (hD : DsJ (n + 1) U Lo) (A : List Int) (L : List Nat) (st : List (PL × PL)) (k : Nat) (h : Iopen n Tf U Lo tf A L st) (hb : Best cs A L k) :
    Iopen n Tf U Lo tf (openB A (cs.getD k [])) (L.erase k) (storeBehind st (cs.getD k [])) ∧ (openB A (cs.getD k [])).length ≤ 8 := by
  obtain ⟨tk, bk, h⟩ := h
  have hkL := hb.1
  obtain ⟨hxo, hxn⟩ := bk.out hkL
  obtain ⟨t, ht, ec⟩ := W.at_ k (bk.2 k hkL)
  have hw := W.pm _ hxn
  have bk' := bk.step hkL
  generalize hx : tf k = x at hxo hxn ec hw bk'
  rw [ec]
  rcases h with ⟨rfl, rfl, rfl⟩ | ⟨i, j, hij, hjn, hmem, hA, hs⟩
  · obtain ⟨p1, p2⟩ := g_first (w := Tf x) (t := t) (ds4 hD (by omega : x ≠ x + 1) (by omega) (by omega)) hw ht store0_rep
    refine ⟨⟨[x], bk', .inr ⟨x, x + 1, by omega, by omega, fun y => ?_, p1, p2⟩⟩, ?_⟩
    · rw [List.mem_singleton]; omega
    · rw [p1.length_eq]; show 4 ≤ 8; decide
  · have hxij : ¬ (i ≤ x ∧ x < j) := fun z => hxo ((hmem x).mpr z)
    by_cases e1 : x = j
    · subst e1
      obtain ⟨p1, p2⟩ := g_right (w := Tf x) (t := t) (ds6 hD (by omega : x ≠ x + 1) (by omega : x ≠ i) (by omega) (by omega) (by omega) (by omega)) hw ht hA hs
      refine ⟨⟨tk ++ [x], bk', .inr ⟨i, x + 1, by omega, by omega, fun y => ?_, p1, by rw [sT_snoc]; exact p2⟩⟩, ?_⟩
      · rw [List.mem_append, List.mem_singleton, hmem]; omega
      · rw [p1.length_eq]; show 4 ≤ 8; decide
    · by_cases e2 : x + 1 = i
      · subst e2
        obtain ⟨p1, p2⟩ := g_left (w := Tf x) (t := t) (ds6 hD (by omega : x ≠ x + 1) (by omega : x ≠ j) (by omega) (by omega) (by omega) (by omega)) hw ht hA hs
        refine ⟨⟨tk ++ [x], bk', .inr ⟨x, j, by omega, by omega, fun y => ?_, p1, by rw [sT_snoc]; exact p2⟩⟩, ?_⟩
        · rw [List.mem_append, List.mem_singleton, hmem]; omega
        · rw [p1.length_eq]; show 4 ≤ 8; decide
      · exfalso
        have hlen := g_far (w := Tf x) (t := t) (ds8 hD (by omega : x ≠ x + 1) (by omega : x ≠ i) (by omega : x ≠ j) (by omega) (by omega) (by omega) (by omega) (by omega) (by omega) (by omega)) hw ht hA
        rw [← ec] at hlen
        by_cases hj : j < n
        · obtain ⟨k', hk', e'⟩ := bk.find hj (fun z => by have := (hmem j).mp z; omega)
          obtain ⟨t', ht', ec'⟩ := W.at_ k' (bk.2 k' hk')
          rw [e'] at ec'
          have p1 := (g_right (w := Tf j) (t := t') (ds6 hD (by omega : j ≠ j + 1) (by omega : j ≠ i) (by omega) (by omega) (by omega) (by omega)) (W.pm j hj) ht' hA hs).1
          have l1 := p1.length_eq
          rw [← ec'] at l1
          have := hb.2 k' hk'
          rw [hlen, l1] at this
          simp at this
        · have hi : 0 < i := by omega
          obtain ⟨k', hk', e'⟩ := bk.find (x := i - 1) (by omega) (fun z => by have := (hmem (i - 1)).mp z; omega)
          obtain ⟨t', ht', ec'⟩ := W.at_ k' (bk.2 k' hk')
          rw [e'] at ec'
          have e3 : i - 1 + 1 = i := by omega
          rw [e3] at ec'
          have p1 := (g_left (w := Tf (i - 1)) (t := t') (ds6 hD (by omega : i - 1 ≠ i) (by omega : i - 1 ≠ j) (by omega) (by omega) (by omega) (by omega)) (W.pm _ (by omega)) ht' hA hs).1
          have l1 := p1.length_eq
          rw [← ec'] at l1
          have := hb.2 k' hk'
          rw [hlen, l1] at this
          simp at this
theorem open_ok (W : Webd n Tf U Lo (fun x => U (x + 1)) (fun x => Lo (x + 1)) cs tf) (hn : n ≤ 40) (hD : DsJ (n + 1) U Lo) (hH : HashOk w (n + 1) U Lo) {res : List (Nat × List Int)} (h : Tak cs [] (List.range cs.length) res) :
    (∀ e ∈ res, e.2.length ≤ 8) ∧ (∀ i, StOk w (stAt cs (res.map (·.1)) i) ∧ (stAt cs (res.map (·.1)) i).length ≤ 2) ∧
      ((n = 0 ∧ stAt cs (res.map (·.1)) cs.length = store0) ∨ (1 ≤ n ∧ Two2 (sT Tf (List.range n)) (U 0) (Lo 0) (U n) (Lo n) (stAt cs (res.map (·.1)) cs.length))) := by
  have hl := tak_len h
  rw [List.length_range] at hl
  rw [W.len] at h hl ⊢
  obtain ⟨h1, h2, A', h3⟩ := tak_inv (I := Iopen n Tf U Lo tf) (open_step W hD) h store0 ⟨[], Bk.init W, .inl ⟨rfl, rfl, rfl⟩⟩
  refine ⟨h1, fun i => ?_, ?_⟩
  · obtain ⟨A2, L2, tk, bk, z⟩ := h2 i
    rcases z with ⟨_, _, z⟩ | ⟨a, b, hab, hbn, _, _, r⟩
    · show StOk w (((res.map (·.1)).take i).foldl _ store0) ∧ _
      unfold stAt
      rw [z]
      exact store0_ok w
    · exact two2_ok hH (by omega) (by omega) (by omega) r (pm_row W bk hn)
  · have e : stAt cs (res.map (·.1)) n = (res.map (·.1)).foldl (fun st k => storeBehind st (cs.getD k [])) store0 := by
      unfold stAt
      rw [List.take_of_length_le (by rw [List.length_map, hl]; exact Nat.le_refl _)]
    rw [e]
    obtain ⟨tk, bk, z⟩ := h3
    rcases z with ⟨z1, _, z⟩ | ⟨a, b, hab, hbn, hmem, _, r⟩
    · left
      refine ⟨?_, z⟩
      have := bk.done.length_eq
      rw [z1, List.length_range] at this
      exact this.symm
    · right
      have ha : a = 0 := by
        have := (hmem 0).mp (bk.done.mem_iff.mpr (List.mem_range.mpr (by omega)))
        omega
      have hb : b = n := by
        have := (hmem (n - 1)).mp (bk.done.mem_iff.mpr (List.mem_range.mpr (by omega)))
        omega
      subst ha hb
      rw [← bk.rows W]
      exact ⟨by omega, r⟩
end
end TH
end
section
set_option Elab.async false
set_option linter.all false
namespace TH
section
variable {n : Nat} {Tf : Nat → Int} {U Lo : Nat → Int} {cs : List (List Int)} {tf : Nat → Nat} {w : PySem.World}
def nx (n x : Nat) : Nat := if x + 1 = n then 0 else x + 1
def total (s : Cf × Cf) : Cf := fun k => dls s.1 2 k + dl s.2 k
def Icyc (n : Nat) (Tf : Nat → Int) (U Lo : Nat → Int) (tf : Nat → Nat) (A : List Int) (L : List Nat) (st : List (PL × PL)) : Prop :=
  ∃ tk, Bk n tf tk L ∧ ((tk = [] ∧ A = [] ∧ st = store0) ∨
    (∃ i j, i ≠ j ∧ i < n ∧ j < n ∧ (∀ x, x ∈ tk ↔ x < n ∧ ((i < j ∧ i ≤ x ∧ x < j) ∨ (j < i ∧ (i ≤ x ∨ x < j)))) ∧ A.Perm [U i, Lo i, U j, Lo j] ∧ Two2 (sT Tf tk) (U i) (Lo i) (U j) (Lo j) st) ∨
    ((∀ x, x < n → x ∈ tk) ∧ 1 ≤ n ∧ A.Perm [] ∧ Rep st [([], total (sT Tf tk))]))
theorem nx_lt {x : Nat} (h : x < n) : nx n x < n := by unfold nx; split <;> omega
theorem cyc_step (W : Webd n Tf U Lo (fun x => U (nx n x)) (fun x => Lo (nx n x)) cs tf) (hD : DsJ n U Lo) (A : List Int) (L : List Nat) (st : List (PL × PL)) (k : Nat) (h : Icyc n Tf U Lo tf A L st) (hb : Best cs A L k) :
    Icyc n Tf U Lo tf (openB A (cs.getD k [])) (L.erase k) (storeBehind st (cs.getD k [])) ∧ (openB A (cs.getD k [])).length ≤ 8 := by
  obtain ⟨tk, bk, h⟩ := h
  have hkL := hb.1
  obtain ⟨hxo, hxn⟩ := bk.out hkL
  obtain ⟨t, ht, ec⟩ := W.at_ k (bk.2 k hkL)
  have hw := W.pm _ hxn
  have bk' := bk.step hkL
  generalize hx : tf k = x at hxo hxn ec hw bk'
  rw [ec]
  have d4 : ∀ a b, a ≠ b → a < n → b < n → Ds [U a, Lo a, U b, Lo b] := fun a b h ha hb => hD [a, b] (by simp [h]) (by simp; omega)
  have d6 : ∀ a b c, a ≠ b → a ≠ c → b ≠ c → a < n → b < n → c < n → Ds [U a, Lo a, U b, Lo b, U c, Lo c] := fun a b c h h2 h3 ha hb hc => hD [a, b, c] (by simp [h, h2, h3]) (by simp; omega)
  have hnx := nx_lt hxn
  rcases h with ⟨rfl, rfl, rfl⟩ | ⟨i, j, hij, hin, hjn, hmem, hA, hs⟩ | ⟨hall, _, _⟩
  · by_cases n1 : n = 1
    · have x0 : x = 0 := by omega
      subst x0
      have e0 : nx n 0 = 0 := by unfold nx; rw [if_pos (by omega)]
      rw [e0]
      obtain ⟨p1, p2⟩ := g_cyc1 (w := Tf 0) (t := t) (hD [0] (by simp) (by simp; omega)) hw ht store0_rep
      refine ⟨⟨[0], bk', .inr (.inr ⟨fun y hy => by rw [List.mem_singleton]; omega, by omega, p1, p2⟩)⟩, ?_⟩
      rw [p1.length_eq]; exact Nat.zero_le _
    · have ne : x ≠ nx n x := by unfold nx; split <;> omega
      obtain ⟨p1, p2⟩ := g_first (w := Tf x) (t := t) (d4 x (nx n x) ne hxn hnx) hw ht store0_rep
      refine ⟨⟨[x], bk', .inr (.inl ⟨x, nx n x, ne, hxn, hnx, fun y => ?_, p1, p2⟩)⟩, ?_⟩
      · rw [List.mem_singleton]
        unfold nx at ne ⊢
        split at ne <;> split <;> omega
      · rw [p1.length_eq]; show 4 ≤ 8; decide
  · have hxm : ¬ ((i < j ∧ i ≤ x ∧ x < j) ∨ (j < i ∧ (i ≤ x ∨ x < j))) := fun z => hxo ((hmem x).mpr ⟨hxn, z⟩)
    by_cases e1 : x = j
    · subst e1
      by_cases e2 : nx n x = i
      · rw [e2]
        obtain ⟨p1, p2⟩ := g_close (w := Tf x) (t := t) (d4 x i (by omega) hxn hin) hw ht hA hs
        refine ⟨⟨tk ++ [x], bk', .inr (.inr ⟨fun y hy => ?_, by omega, p1, by rw [sT_snoc]; exact p2⟩)⟩, ?_⟩
        · rw [List.mem_append, List.mem_singleton, hmem]
          unfold nx at e2
          split at e2 <;> omega
        · rw [p1.length_eq]; exact Nat.zero_le _
      · have ne : x ≠ nx n x := by unfold nx; split <;> omega
        obtain ⟨p1, p2⟩ := g_right (w := Tf x) (t := t) (d6 x (nx n x) i ne (by omega) e2 hxn hnx hin) hw ht hA hs
        refine ⟨⟨tk ++ [x], bk', .inr (.inl ⟨i, nx n x, fun z => e2 z.symm, hin, hnx, fun y => ?_, p1, by rw [sT_snoc]; exact p2⟩)⟩, ?_⟩
        · rw [List.mem_append, List.mem_singleton, hmem]
          unfold nx at e2 ⊢
          split at e2 <;> split <;> omega
        · rw [p1.length_eq]; show 4 ≤ 8; decide
    · by_cases e2 : nx n x = i
      · rw [e2]
        obtain ⟨p1, p2⟩ := g_left (w := Tf x) (t := t) (d6 x i j (by unfold nx at e2; split at e2 <;> omega) e1 hij hxn hin hjn) hw ht hA hs
        refine ⟨⟨tk ++ [x], bk', .inr (.inl ⟨x, j, e1, hxn, hjn, fun y => ?_, p1, by rw [sT_snoc]; exact p2⟩)⟩, ?_⟩
        · rw [List.mem_append, List.mem_singleton, hmem]
          unfold nx at e2
          split at e2 <;> omega
        · rw [p1.length_eq]; show 4 ≤ 8; decide
      · exfalso
        have xi : x ≠ i := by omega
        have xn : x ≠ nx n x := by unfold nx; split <;> omega
        have nj : nx n x ≠ j := by unfold nx at e2 ⊢; split at e2 <;> split <;> omega
        have hlen := g_far (w := Tf x) (t := t) (hD [x, nx n x, i, j] (by simp [xn, xi, e1, e2, nj, hij]) (by simp; omega)) hw ht hA
        rw [← ec] at hlen
        obtain ⟨k', hk', e'⟩ := bk.find hjn (fun z => by have := (hmem j).mp z; omega)
        obtain ⟨t', ht', ec'⟩ := W.at_ k' (bk.2 k' hk')
        rw [e'] at ec'
        have hz := hb.2 k' hk'
        rw [hlen] at hz
        by_cases e3 : nx n j = i
        · rw [e3] at ec'
          have p1 := (g_close (w := Tf j) (t := t') (d4 j i (by omega) hjn hin) (W.pm j hjn) ht' hA hs).1
          have l1 := p1.length_eq
          rw [← ec'] at l1
          rw [l1] at hz
          simp at hz
        · have p1 := (g_right (w := Tf j) (t := t') (d6 j (nx n j) i (by unfold nx; split <;> omega) (by omega) e3 hjn (nx_lt hjn) hin) (W.pm j hjn) ht' hA hs).1
          have l1 := p1.length_eq
          rw [← ec'] at l1
          rw [l1] at hz
          simp at hz
  · exact absurd (hall x hxn) hxo
theorem rep_one_ok (w : PySem.World) {st : List (PL × PL)} {K : PL} {z : Cf} (h : Rep st [(K, z)]) (k4 : K.length ≤ 4) (s : Sup 249 z) : StOk w st ∧ st.length ≤ 2 := by
  refine rep_ok h (by simp) (fun x hx => ?_) (fun x hx => ?_) (fun x hx y hy e => ?_)
  · rw [List.mem_singleton.mp hx]; exact s
  · rw [List.mem_singleton.mp hx]; exact k4
  · rw [List.mem_singleton.mp hx, List.mem_singleton.mp hy]
theorem sup_total {B : Nat} {s : Cf × Cf} (h : Sup2 B s) : Sup (B + 4) (total s) := fun k hk => by
  unfold total
  have h1 : dls s.1 2 k = 0 := (h.1.dl.dl) k (by omega)
  have h2 : dl s.2 k = 0 := h.2.dl k (by omega)
  rw [h1, h2]
  rfl
theorem cyc_ok (W : Webd n Tf U Lo (fun x => U (nx n x)) (fun x => Lo (nx n x)) cs tf) (hn : n ≤ 40) (hD : DsJ n U Lo) (hH : HashOk w n U Lo) {res : List (Nat × List Int)} (h : Tak cs [] (List.range cs.length) res) :
    (∀ e ∈ res, e.2.length ≤ 8) ∧ (∀ i, StOk w (stAt cs (res.map (·.1)) i) ∧ (stAt cs (res.map (·.1)) i).length ≤ 2) ∧ (1 ≤ n → Rep (stAt cs (res.map (·.1)) cs.length) [([], total (sT Tf (List.range n)))]) := by
  have hl := tak_len h
  rw [List.length_range] at hl
  rw [W.len] at h hl ⊢
  obtain ⟨h1, h2, A', h3⟩ := tak_inv (I := Icyc n Tf U Lo tf) (cyc_step W hD) h store0 ⟨[], Bk.init W, .inl ⟨rfl, rfl, rfl⟩⟩
  refine ⟨h1, fun i => ?_, fun n1 => ?_⟩
  · obtain ⟨A2, L2, tk, bk, z⟩ := h2 i
    rcases z with ⟨_, _, z⟩ | ⟨a, b, hab, han, hbn, _, _, r⟩ | ⟨_, _, _, r⟩
    · show StOk w (((res.map (·.1)).take i).foldl _ store0) ∧ _
      unfold stAt
      rw [z]
      exact store0_ok w
    · exact two2_ok hH han hbn hab r (pm_row W bk hn)
    · exact rep_one_ok w r (Nat.zero_le _) ((sup_total (pm_row W bk hn)).mono (by decide))
  · have e : stAt cs (res.map (·.1)) n = (res.map (·.1)).foldl (fun st k => storeBehind st (cs.getD k [])) store0 := by
      unfold stAt
      rw [List.take_of_length_le (by rw [List.length_map, hl]; exact Nat.le_refl _)]
    rw [e]
    obtain ⟨tk, bk, z⟩ := h3
    rcases z with ⟨z1, _, z⟩ | ⟨a, b, hab, han, hbn, hmem, _, r⟩ | ⟨_, _, _, r⟩
    · exfalso
      have := bk.done.length_eq
      rw [z1, List.length_range] at this
      simp at this
      omega
    · exfalso
      have := (hmem b).mp (bk.done.mem_iff.mpr (List.mem_range.mpr hbn))
      omega
    · rw [← bk.rows W]
      exact r
end
end TH
end
section
set_option Elab.async false
set_option linter.all false
namespace TH
theorem Ds.sub {l l' : List Int} (h : Ds l) (s : l'.Sublist l) : Ds l' := ⟨h.1.sublist s, fun v hv => h.2 v (s.subset hv)⟩
section
variable {n : Nat} {Tf : Nat → Int} {U Lo : Nat → Int} {cs : List (List Int)} {tf : Nat → Nat} {w : PySem.World}
def Icap (n : Nat) (Tf : Nat → Int) (U Lo : Nat → Int) (tf : Nat → Nat) (A : List Int) (L : List Nat) (st : List (PL × PL)) : Prop :=
  ∃ tk, Bk n tf tk L ∧ ((tk = [] ∧ A = [] ∧ st = store0) ∨
    (∃ j, 1 ≤ j ∧ j < n ∧ ((∀ x, x ∈ tk ↔ x < j) ∨ (∀ x, x ∈ tk ↔ j ≤ x ∧ x < n)) ∧ A.Perm [U j, Lo j] ∧ Rep st [(K1 (U j) (Lo j), cap (sT Tf tk))]) ∨
    ((∀ x, x < n → x ∈ tk) ∧ 1 ≤ n ∧ A.Perm [] ∧ Rep st [([], dl (cap (sT Tf tk)))]))
theorem cap_snoc {tk : List Nat} {x : Nat} (h : Pm (Tf x)) : cap (sT Tf (tk ++ [x])) = Cw (Tf x) (cap (sT Tf tk)) := by rw [sT_snoc, cap_tw h]
theorem cap_one {x : Nat} (h : Pm (Tf x)) : cap (sT Tf [x]) = Cw (Tf x) (cf pONE) := by
  have := cap_snoc (Tf := Tf) (tk := []) h
  rw [List.nil_append] at this
  rw [this]
  congr 1
  funext k
  show cf pONE k + dl (fun _ => 0) k = cf pONE k
  have : dl (fun _ => 0) k = 0 := rfl
  rw [this, Int.add_zero]
theorem cap_step (W : Webd n Tf U (fun x => if x = 0 then U 0 else Lo x) (fun x => if x + 1 = n then Lo n else U (x + 1)) (fun x => Lo (x + 1)) cs tf) (hD : DsJ (n + 1) U Lo) (A : List Int) (L : List Nat) (st : List (PL × PL)) (k : Nat) (h : Icap n Tf U Lo tf A L st) (hb : Best cs A L k) :
    Icap n Tf U Lo tf (openB A (cs.getD k [])) (L.erase k) (storeBehind st (cs.getD k [])) ∧ (openB A (cs.getD k [])).length ≤ 8 := by
  obtain ⟨tk, bk, h⟩ := h
  have hkL := hb.1
  obtain ⟨hxo, hxn⟩ := bk.out hkL
  obtain ⟨t, ht, ec⟩ := W.at_ k (bk.2 k hkL)
  have hw := W.pm _ hxn
  have bk' := bk.step hkL
  generalize hx : tf k = x at hxo hxn ec hw bk'
  have d4 : ∀ a b, a ≠ b → a ≤ n → b ≤ n → Ds [U a, Lo a, U b, Lo b] := fun a b h ha hb => hD [a, b] (by simp [h]) (by simp; omega)
  have d6 : ∀ a b c, a ≠ b → a ≠ c → b ≠ c → a ≤ n → b ≤ n → c ≤ n → Ds [U a, Lo a, U b, Lo b, U c, Lo c] := fun a b c h h2 h3 ha hb hc => hD [a, b, c] (by simp [h, h2, h3]) (by simp; omega)
  -- arcs of a capped end
  have dL : ∀ b, 1 ≤ b → b ≤ n → Ds [U 0, U b, Lo b] := fun b h1 h2 => (d4 0 b (by omega) (by omega) h2).sub (.cons_cons _ (.cons _ (List.Sublist.refl _)))
  have dR : ∀ b, b < n → Ds [U b, Lo b, Lo n] := fun b h1 => (d4 b n (by omega) (by omega) (by omega)).sub (.cons_cons _ (.cons_cons _ (.cons _ (List.Sublist.refl _))))
  have dL6 : ∀ b c, 1 ≤ b → 1 ≤ c → b ≠ c → b ≤ n → c ≤ n → Ds [U 0, U b, Lo b, U c, Lo c] := fun b c h1 h2 h3 h4 h5 => (d6 0 b c (by omega) (by omega) h3 (by omega) h4 h5).sub (.cons_cons _ (.cons _ (List.Sublist.refl _)))
  have dR6 : ∀ b c, b < n → c < n → b ≠ c → Ds [U b, Lo b, Lo n, U c, Lo c] := fun b c h1 h2 h3 => (d6 b n c (by omega) h3 (by omega) (by omega) (by omega) (by omega)).sub (.cons_cons _ (.cons_cons _ (.cons _ (List.Sublist.refl _))))
  rcases h with ⟨rfl, rfl, rfl⟩ | ⟨j, hj1, hjn, hmem, hA, hs⟩ | ⟨hall, _, _⟩
  · by_cases n1 : n = 1
    · subst n1
      have x0 : x = 0 := by omega
      subst x0
      rw [if_pos rfl, if_pos rfl] at ec
      rw [ec]
      obtain ⟨p1, p2⟩ := g_capLR (w := Tf 0) (t := t) ((d4 0 1 (by omega) (by omega) (by omega)).sub (.cons_cons _ (.cons _ (.cons _ (List.Sublist.refl _))))) hw ht store0_rep
      refine ⟨⟨[0], bk', .inr (.inr ⟨fun y hy => by rw [List.mem_singleton]; omega, by omega, p1, by rw [cap_one hw]; exact p2⟩)⟩, ?_⟩
      rw [p1.length_eq]; exact Nat.zero_le _
    · by_cases x0 : x = 0
      · subst x0
        rw [if_pos rfl, if_neg (by omega)] at ec
        rw [ec]
        obtain ⟨p1, p2⟩ := g_capL (w := Tf 0) (t := t) (dL 1 (by omega) (by omega)) hw ht store0_rep
        refine ⟨⟨[0], bk', .inr (.inl ⟨1, by omega, by omega, .inl fun y => by rw [List.mem_singleton]; omega, p1, by rw [cap_one hw]; exact p2⟩)⟩, ?_⟩
        rw [p1.length_eq]; show 2 ≤ 8; decide
      · rw [if_neg x0] at ec
        by_cases xn : x + 1 = n
        · rw [if_pos xn, xn] at ec
          rw [ec]
          obtain ⟨p1, p2⟩ := g_capR (w := Tf x) (t := t) (dR x (by omega)) hw ht store0_rep
          refine ⟨⟨[x], bk', .inr (.inl ⟨x, by omega, by omega, .inr fun y => by rw [List.mem_singleton]; omega, p1, by rw [cap_one hw]; exact p2⟩)⟩, ?_⟩
          rw [p1.length_eq]; show 2 ≤ 8; decide
        · exfalso
          rw [if_neg xn] at ec
          have hlen := l_first (w := Tf x) (t := t) (d4 x (x + 1) (by omega) (by omega) (by omega)) hw ht
          rw [← ec] at hlen
          obtain ⟨k', hk', e'⟩ := bk.find (x := 0) (by omega) (fun z => nomatch z)
          obtain ⟨t', ht', ec'⟩ := W.at_ k' (bk.2 k' hk')
          rw [e', if_pos rfl, if_neg (by omega)] at ec'
          have hz := hb.2 k' hk'
          have l1 := (g_capL (w := Tf 0) (t := t') (dL 1 (by omega) (by omega)) (W.pm 0 (by omega)) ht' store0_rep).1.length_eq
          rw [← ec'] at l1
          rw [hlen, l1] at hz
          simp at hz
  · rcases hmem with hmem | hmem
    · -- from the left
      have hxj : j ≤ x := by
        have : ¬ x < j := fun z => hxo ((hmem x).mpr z)
        omega
      by_cases e1 : x = j
      · subst e1
        rw [if_neg (by omega)] at ec
        by_cases xn : x + 1 = n
        · rw [if_pos xn, xn] at ec
          rw [ec]
          obtain ⟨p1, p2⟩ := g_lastR (w := Tf x) (t := t) (dR x (by omega)) hw ht hA hs
          refine ⟨⟨tk ++ [x], bk', .inr (.inr ⟨fun y hy => by rw [List.mem_append, List.mem_singleton, hmem]; omega, by omega, p1, by rw [cap_snoc hw]; exact p2⟩)⟩, ?_⟩
          rw [p1.length_eq]; exact Nat.zero_le _
        · rw [if_neg xn] at ec
          rw [ec]
          obtain ⟨p1, p2⟩ := g_cr (w := Tf x) (t := t) (d4 x (x + 1) (by omega) (by omega) (by omega)) hw ht hA hs
          refine ⟨⟨tk ++ [x], bk', .inr (.inl ⟨x + 1, by omega, by omega, .inl fun y => by rw [List.mem_append, List.mem_singleton, hmem]; omega, p1, by rw [cap_snoc hw]; exact p2⟩)⟩, ?_⟩
          rw [p1.length_eq]; show 2 ≤ 8; decide
      · exfalso
        obtain ⟨k', hk', e'⟩ := bk.find hjn (fun z => by have := (hmem j).mp z; omega)
        obtain ⟨t', ht', ec'⟩ := W.at_ k' (bk.2 k' hk')
        rw [e', if_neg (by omega), if_neg (by omega)] at ec'
        have hz := hb.2 k' hk'
        have l1 := (g_cr (w := Tf j) (t := t') (d4 j (j + 1) (by omega) (by omega) (by omega)) (W.pm j hjn) ht' hA hs).1.length_eq
        rw [← ec'] at l1
        rw [if_neg (by omega)] at ec
        by_cases xn : x + 1 = n
        · rw [if_pos xn, xn] at ec
          have hlen := l_farR (w := Tf x) (t := t) (dR6 x j (by omega) hjn e1) hw ht hA
          rw [← ec] at hlen
          rw [hlen, l1] at hz
          simp at hz
        · rw [if_neg xn] at ec
          have hlen := l_far2 (w := Tf x) (t := t) (d6 x (x + 1) j (by omega) e1 (by omega) (by omega) (by omega) (by omega)) hw ht hA
          rw [← ec] at hlen
          rw [hlen, l1] at hz
          simp at hz
    · -- from the right
      have hxj : x < j := by
        have : ¬ (j ≤ x ∧ x < n) := fun z => hxo ((hmem x).mpr z)
        omega
      by_cases e1 : x + 1 = j
      · subst e1
        rw [if_neg (by omega : ¬ x + 1 = n)] at ec
        by_cases x0 : x = 0
        · subst x0
          rw [if_pos rfl] at ec
          rw [ec]
          obtain ⟨p1, p2⟩ := g_lastL (w := Tf 0) (t := t) (dL 1 (by omega) (by omega)) hw ht hA hs
          refine ⟨⟨tk ++ [0], bk', .inr (.inr ⟨fun y hy => by rw [List.mem_append, List.mem_singleton, hmem]; omega, by omega, p1, by rw [cap_snoc hw]; exact p2⟩)⟩, ?_⟩
          rw [p1.length_eq]; exact Nat.zero_le _
        · rw [if_neg x0] at ec
          rw [ec]
          obtain ⟨p1, p2⟩ := g_cl (w := Tf x) (t := t) (d4 x (x + 1) (by omega) (by omega) (by omega)) hw ht hA hs
          refine ⟨⟨tk ++ [x], bk', .inr (.inl ⟨x, by omega, by omega, .inr fun y => by rw [List.mem_append, List.mem_singleton, hmem]; omega, p1, by rw [cap_snoc hw]; exact p2⟩)⟩, ?_⟩
          rw [p1.length_eq]; show 2 ≤ 8; decide
      · exfalso
        obtain ⟨k', hk', e'⟩ := bk.find (x := j - 1) (by omega) (fun z => by have := (hmem (j - 1)).mp z; omega)
        obtain ⟨t', ht', ec'⟩ := W.at_ k' (bk.2 k' hk')
        have e3 : j - 1 + 1 = j := by omega
        rw [e', if_neg (by omega), if_neg (by omega), e3] at ec'
        have hz := hb.2 k' hk'
        have l1 := (g_cl (w := Tf (j - 1)) (t := t') (d4 (j - 1) j (by omega) (by omega) (by omega)) (W.pm _ (by omega)) ht' hA hs).1.length_eq
        rw [← ec'] at l1
        rw [if_neg (by omega : ¬ x + 1 = n)] at ec
        by_cases x0 : x = 0
        · subst x0
          rw [if_pos rfl] at ec
          have hlen := l_farL (w := Tf 0) (t := t) (dL6 (0 + 1) j (by omega) (by omega) e1 (by omega) (by omega)) hw ht hA
          rw [← ec] at hlen
          rw [hlen, l1] at hz
          simp at hz
        · rw [if_neg x0] at ec
          have hlen := l_far2 (w := Tf x) (t := t) (d6 x (x + 1) j (by omega) (by omega) e1 (by omega) (by omega) (by omega)) hw ht hA
          rw [← ec] at hlen
          rw [hlen, l1] at hz
          simp at hz
  · exact absurd (hall x hxn) hxo
theorem sup_cap {B : Nat} {s : Cf × Cf} (h : Sup2 B s) : Sup (B + 2) (cap s) := fun k hk => by
  unfold cap
  rw [h.1 k (by omega), h.2.dl k (by omega)]
  rfl
theorem cap_ok (W : Webd n Tf U (fun x => if x = 0 then U 0 else Lo x) (fun x => if x + 1 = n then Lo n else U (x + 1)) (fun x => Lo (x + 1)) cs tf) (hn : n ≤ 40) (hD : DsJ (n + 1) U Lo) {res : List (Nat × List Int)} (h : Tak cs [] (List.range cs.length) res) :
    (∀ e ∈ res, e.2.length ≤ 8) ∧ (∀ i, StOk w (stAt cs (res.map (·.1)) i) ∧ (stAt cs (res.map (·.1)) i).length ≤ 2) ∧ (1 ≤ n → Rep (stAt cs (res.map (·.1)) cs.length) [([], dl (cap (sT Tf (List.range n))))]) := by
  have hl := tak_len h
  rw [List.length_range] at hl
  rw [W.len] at h hl ⊢
  obtain ⟨h1, h2, A', h3⟩ := tak_inv (I := Icap n Tf U Lo tf) (cap_step W hD) h store0 ⟨[], Bk.init W, .inl ⟨rfl, rfl, rfl⟩⟩
  refine ⟨h1, fun i => ?_, fun n1 => ?_⟩
  · obtain ⟨A2, L2, tk, bk, z⟩ := h2 i
    rcases z with ⟨_, _, z⟩ | ⟨j, _, _, _, _, r⟩ | ⟨_, _, _, r⟩
    · show StOk w (((res.map (·.1)).take i).foldl _ store0) ∧ _
      unfold stAt
      rw [z]
      exact store0_ok w
    · exact rep_one_ok w r (Nat.le_trans (openJoin_len _) (by show 2 ≤ 4; decide)) ((sup_cap (pm_row W bk hn)).mono (by decide))
    · exact rep_one_ok w r (Nat.zero_le _) ((sup_cap (pm_row W bk hn)).dl.mono (by decide))
  · have e : stAt cs (res.map (·.1)) n = (res.map (·.1)).foldl (fun st k => storeBehind st (cs.getD k [])) store0 := by
      unfold stAt
      rw [List.take_of_length_le (by rw [List.length_map, hl]; exact Nat.le_refl _)]
    rw [e]
    obtain ⟨tk, bk, z⟩ := h3
    rcases z with ⟨z1, _, z⟩ | ⟨j, hj1, hjn, hmem, _, r⟩ | ⟨_, _, _, r⟩
    · exfalso
      have := bk.done.length_eq
      rw [z1, List.length_range] at this
      simp at this
      omega
    · exfalso
      have h0 := bk.done.mem_iff.mpr (List.mem_range.mpr (show 0 < n by omega))
      have hj := bk.done.mem_iff.mpr (List.mem_range.mpr (show j < n by omega))
      rcases hmem with hmem | hmem
      · have := (hmem j).mp hj; omega
      · have := (hmem 0).mp h0; omega
    · rw [← bk.rows W]
      exact r
end
end TH
end
section
set_option Elab.async false
set_option linter.all false
namespace TH
/-! the law's own numbers -/
theorem KN.lputStep {more d : PL} {lift by_ k : Int} (h : KN d) : KN (lputStep more lift by_ d k) := h.dp _ _
theorem lput_fold (more : PL) (lift by_ : Int) (j : Int) : ∀ (ks : List Int) (d : PL), ks.Nodup → KN d → KN (ks.foldl (lputStep more lift by_) d) ∧ dg (ks.foldl (lputStep more lift by_) d) j = dg d j + if j - lift ∈ ks then by_ * dg more (j - lift) else 0
  | [], d, _, h => ⟨h, by rw [List.foldl_nil, if_neg List.not_mem_nil, Int.add_zero]⟩
  | k :: ks, d, hn, h => by
    rw [List.nodup_cons] at hn
    obtain ⟨z1, z2⟩ := lput_fold more lift by_ j ks (lputStep more lift by_ d k) hn.2 h.lputStep
    refine ⟨z1, ?_⟩
    rw [List.foldl_cons, z2]
    have e : dg (lputStep more lift by_ d k) j = if j = k + lift then dg d (k + lift) + by_ * dg more k else dg d j := dg_dp _ _ _ _
    rw [e]
    by_cases q : j = k + lift
    · have q2 : j - lift = k := by omega
      rw [if_pos q, q2, if_neg hn.1, if_pos List.mem_cons_self, q, Int.add_zero]
    · have q2 : j - lift ≠ k := by omega
      rw [if_neg q]
      congr 1
      by_cases m : j - lift ∈ ks
      · rw [if_pos m, if_pos (List.mem_cons_of_mem _ m)]
      · rw [if_neg m, if_neg (fun z => (List.mem_cons.mp z).elim q2 m)]
theorem dg_none {d : PL} {k : Int} (h : k ∉ d.map (·.1)) : dg d k = 0 := by unfold dg; rw [dv_none.mpr h]; rfl
theorem KN.lput {nm more : PL} {lift by_ : Int} (h : KN nm) (h2 : KN more) : KN (lput nm more lift by_) := (lput_fold more lift by_ 0 _ nm h2 h).1
theorem dg_lput {nm more : PL} {lift by_ : Int} (h : KN nm) (h2 : KN more) (j : Int) : dg (lput nm more lift by_) j = dg nm j + by_ * dg more (j - lift) := by
  unfold TH.lput
  rw [(lput_fold more lift by_ j _ nm h2 h).2]
  by_cases m : j - lift ∈ more.map (·.1)
  · rw [if_pos m]
  · rw [if_neg m, dg_none m, Int.mul_zero]
theorem dg_nil (j : Int) : dg [] j = 0 := rfl
theorem lring_ok {nm : PL} (h : KN nm) : ∀ n, KN (lring nm n) ∧ dg (lring nm n) = dls (dg nm) n
  | 0 => ⟨h, rfl⟩
  | n + 1 => by
    obtain ⟨z1, z2⟩ := lring_ok h n
    have k1 : KN (lput [] (lring nm n) 2 (-1)) := KN.lput KN.nil z1
    refine ⟨KN.lput k1 z1, funext fun j => ?_⟩
    show dg (lput (lput [] (lring nm n) 2 (-1)) (lring nm n) (-2) (-1)) j = dl (dls (dg nm) n) j
    rw [dg_lput k1 z1, dg_lput KN.nil z1, dg_nil, z2]
    unfold dl
    have e : j - -2 = j + 2 := by omega
    rw [e]
    omega
theorem lpoly_ok {nm : PL} (h : KN nm) : Can (lpoly nm) ∧ ∀ k, cf (lpoly nm) k = dg nm k := ⟨can_fin h, cf_fin h⟩
theorem tw_ok : ∀ (T : List Int) (s : PL × PL), KN s.1 → KN s.2 → KN (T.foldl (fun s w => (twA s.1 w, twS s.1 s.2 w)) s).1 ∧ KN (T.foldl (fun s w => (twA s.1 w, twS s.1 s.2 w)) s).2 ∧
    (dg (T.foldl (fun s w => (twA s.1 w, twS s.1 s.2 w)) s).1, dg (T.foldl (fun s w => (twA s.1 w, twS s.1 s.2 w)) s).2) = T.foldl (fun s w => Tw w s) (dg s.1, dg s.2)
  | [], s, h1, h2 => ⟨h1, h2, rfl⟩
  | w :: T, s, h1, h2 => by
    have k1 : KN (twA s.1 w) := KN.lput KN.nil h1
    have k0 : KN (lput [] s.1 (-w) 1) := KN.lput KN.nil h1
    have k2 : KN (twS s.1 s.2 w) := KN.lput k0 h2
    obtain ⟨z1, z2, z3⟩ := tw_ok T (twA s.1 w, twS s.1 s.2 w) k1 k2
    refine ⟨z1, z2, ?_⟩
    rw [List.foldl_cons, List.foldl_cons, z3]
    congr 1
    refine Prod.ext (funext fun k => ?_) (funext fun k => ?_)
    · show dg (lput [] s.1 w 1) k = dg s.1 (k - w)
      rw [dg_lput KN.nil h1, dg_nil]
      omega
    · show dg (lput (lput [] s.1 (-w) 1) s.2 (-3 * w) (-1)) k = dg s.1 (k + w) - dg s.2 (k + 3 * w)
      rw [dg_lput k0 h2, dg_lput KN.nil h1, dg_nil]
      have e1 : k - -w = k + w := by omega
      have e2 : k - -3 * w = k + 3 * w := by omega
      rw [e1, e2]
      omega
theorem tw_rows (T : List Int) : KN (tw T).1 ∧ KN (tw T).2 ∧ (dg (tw T).1, dg (tw T).2) = T.foldl (fun s w => Tw w s) (cf pONE, fun _ => 0) := by
  obtain ⟨z1, z2, z3⟩ := tw_ok T ([(0, 1)], []) (by unfold KN; decide) KN.nil
  refine ⟨z1, z2, ?_⟩
  unfold tw
  rw [z3]
  congr 1
  refine Prod.ext (funext fun k => ?_) rfl
  show dg [(0, 1)] k = cf [(0, 1)] k
  unfold dg
  rw [dv_cons, cf_cons, cf_nil]
  by_cases h : (0 : Int) = k
  · rw [if_pos h, if_pos h]; rfl
  · rw [if_neg h, if_neg h]; rfl
/-! the arcs -/
theorem arcs_get {p o l : Int} {m i : Nat} (h : i < m) : (arcsOf p o l m).getD i 0 = (o + (i : Nat) * l) % p := by
  unfold arcsOf
  rw [List.getD_eq_getElem?_getD, List.getElem?_map, List.getElem?_range h]
  rfl
theorem cop (p : Nat) (hp : p = 101 ∨ p = 10007 ∨ p = 999999937) : ∀ d, d < 82 → 0 < d → Nat.gcd p d = 1 := by
  rcases hp with rfl | rfl | rfl <;> decide +kernel
theorem arc_lt {p o l : Int} {i j : Nat} (hp : p = 101 ∨ p = 10007 ∨ p = 999999937) (h1 : 1 ≤ l) (h2 : l < p) (hij : i < j) (hj : j < 82) : (o + (i : Nat) * l) % p ≠ (o + (j : Nat) * l) % p := fun e => by
  have hd := Int.emod_emod_of_dvd
  have d1 : p ∣ (o + (j : Nat) * l) - (o + (i : Nat) * l) := Int.dvd_of_emod_eq_zero (by rw [Int.sub_emod, e, Int.sub_self, Int.zero_emod])
  have e2 : (o + (j : Nat) * l) - (o + (i : Nat) * l) = ((j - i : Nat) : Int) * l := by
    have : (j : Int) = (i : Int) + ((j - i : Nat) : Int) := by omega
    rw [this, Int.add_mul]
    omega
  rw [e2] at d1
  have d2 : p.natAbs ∣ (j - i) * l.natAbs := by
    have := Int.natAbs_dvd_natAbs.mpr d1
    rw [Int.natAbs_mul, Int.natAbs_natCast] at this
    exact this
  have g : Nat.gcd p.natAbs (j - i) = 1 := cop p.natAbs (by omega) (j - i) (by omega) (by omega)
  have d3 := Nat.Coprime.dvd_of_dvd_mul_left (show Nat.Coprime p.natAbs (j - i) from g) d2
  have := Nat.le_of_dvd (by omega) d3
  omega
theorem arc_ne {p o l : Int} {i j : Nat} (hp : p = 101 ∨ p = 10007 ∨ p = 999999937) (h1 : 1 ≤ l) (h2 : l < p) (hij : i ≠ j) (hi : i < 82) (hj : j < 82) : (o + (i : Nat) * l) % p ≠ (o + (j : Nat) * l) % p := by
  rcases Nat.lt_or_gt_of_ne hij with z | z
  · exact arc_lt hp h1 h2 z hj
  · exact fun e => arc_lt hp h1 h2 z hi e.symm
def upI (k : Nat) : Nat := if k = 0 then 0 else 2 * k + 1
def loI (k : Nat) : Nat := if k = 0 then 1 else 2 * k
theorem upA_I (a : List Int) (k : Nat) : upA a k = a.getD (upI k) 0 := by unfold upA upI; split <;> rfl
theorem loA_I (a : List Int) (k : Nat) : loA a k = a.getD (loI k) 0 := by unfold loA loI; split <;> rfl
theorem idx_nodup : ∀ js : List Nat, js.Nodup → (js.flatMap fun x => [upI x, loI x]).Nodup
  | [], _ => List.nodup_nil
  | x :: js, h => by
    rw [List.nodup_cons] at h
    rw [List.flatMap_cons]
    have ih := idx_nodup js h.2
    refine List.nodup_append.mpr ⟨?_, ih, fun u hu v hv => ?_⟩
    · have : upI x ≠ loI x := by unfold upI loI; split <;> omega
      simp [this]
    · obtain ⟨y, hy, hv⟩ := List.mem_flatMap.mp hv
      have ne : x ≠ y := fun z => h.1 (z ▸ hy)
      have c1 : upI x ≠ upI y := by unfold upI; split <;> split <;> omega
      have c2 : upI x ≠ loI y := by unfold upI loI; split <;> split <;> omega
      have c3 : loI x ≠ upI y := by unfold upI loI; split <;> split <;> omega
      have c4 : loI x ≠ loI y := by unfold loI; split <;> split <;> omega
      simp at hu hv
      rcases hu with rfl | rfl <;> rcases hv with rfl | rfl <;> assumption
theorem dsJ {p o l : Int} {n : Nat} (hp : p = 101 ∨ p = 10007 ∨ p = 999999937) (h1 : 1 ≤ l) (h2 : l < p) (hn : n ≤ 40) : DsJ (n + 1) (upA (arcsOf p o l (2 * n + 2))) (loA (arcsOf p o l (2 * n + 2))) := by
  intro js hjs hx
  have e : (js.flatMap fun x => [upA (arcsOf p o l (2 * n + 2)) x, loA (arcsOf p o l (2 * n + 2)) x]) = (js.flatMap fun x => [upI x, loI x]).map fun i => (o + (i : Nat) * l) % p := by
    rw [List.map_flatMap, List.flatMap_def, List.flatMap_def]
    congr 1
    refine List.map_congr_left fun x hxm => ?_
    have := hx x hxm
    show [upA _ x, loA _ x] = [(o + ((upI x : Nat) : Int) * l) % p, (o + ((loI x : Nat) : Int) * l) % p]
    rw [upA_I, loA_I, arcs_get (by unfold upI; split <;> omega), arcs_get (by unfold loI; split <;> omega)]
  rw [e]
  have hb : ∀ i ∈ js.flatMap (fun x => [upI x, loI x]), i < 82 := fun i hi => by
    obtain ⟨x, hxm, hv⟩ := List.mem_flatMap.mp hi
    have := hx x hxm
    simp at hv
    rcases hv with rfl | rfl
    · unfold upI; split <;> omega
    · unfold loI; split <;> omega
  refine ⟨nodup_mapOn (idx_nodup js hjs) fun x hx y hy q => ?_, fun v hv => ?_⟩
  · rcases Decidable.em (x = y) with z | z
    · exact z
    · exact absurd q (arc_ne hp h1 h2 z (hb x hx) (hb y hy))
  · obtain ⟨i, _, rfl⟩ := List.mem_map.mp hv
    exact Int.emod_nonneg _ (by omega)
end TH
end
section
set_option Elab.async false
set_option linter.all false
namespace TH
/-! the webs of the law -/
theorem map_rot (f : Int → Int) (t : Nat) (c : List Int) : (rot t c).map f = rot t (c.map f) := by
  unfold rot
  rw [List.map_append, List.map_drop, List.map_take]
theorem map_xc (f : Int → Int) (a b c d w : Int) (t : Nat) : (Xc a b c d w t).map f = Xc (f a) (f b) (f c) (f d) w t := by
  unfold Xc
  rw [map_rot]
  congr 1
  split
  · rw [map_rot]; rfl
  · rfl
theorem turned_xc {a T : List Int} {k : Nat} {c : List Int} (h : Turned a T k c) : ∃ t, (t = 0 ∨ t = 2) ∧ c = Xc (upA a k) (loA a k) (upA a (k + 1)) (loA a (k + 1)) (T.getD k 0) t := by
  have e : xing a T k = Xc (upA a k) (loA a k) (upA a (k + 1)) (loA a (k + 1)) (T.getD k 0) 0 := by
    unfold xing Xc
    have : ∀ c : List Int, rot 0 c = c := fun c => by unfold rot; rw [List.drop_zero, List.take_zero, List.append_nil]
    rw [this]
  rcases h with rfl | rfl
  · exact ⟨0, .inl rfl, e⟩
  · refine ⟨2, .inr rfl, ?_⟩
    rw [e]
    have : ∀ (a b c d w : Int), rot 2 (Xc a b c d w 0) = Xc a b c d w 2 := fun a b c d w => by
      unfold Xc
      have : ∀ c : List Int, rot 0 c = c := fun c => by unfold rot; rw [List.drop_zero, List.take_zero, List.append_nil]
      rw [this]
    exact this _ _ _ _ _
/-- the rows of a web, its arcs renamed by f -/
theorem webd_of {a T : List Int} {cs : List (List Int)} (hT : ∀ x ∈ T, x = 1 ∨ x = -1) (h : RowsOk a T T.length cs) (f : Int → Int) (Ux Lx Ur Lr : Nat → Int)
    (hf : ∀ x, x < T.length → f (upA a x) = Ux x ∧ f (loA a x) = Lx x ∧ f (upA a (x + 1)) = Ur x ∧ f (loA a (x + 1)) = Lr x) :
    ∃ tf, Webd T.length (fun x => T.getD x 0) Ux Lx Ur Lr (cs.map fun c => c.map f) tf := by
  obtain ⟨ts, hp, hr⟩ := h
  have hl : ts.length = T.length := by rw [hp.length_eq, List.length_range]
  have hc : cs.length = T.length := by rw [← Paired.len hr, hl]
  refine ⟨fun j => ts.getD j 0, by rw [List.length_map, hc], fun x hx => ?_, fun j hj => ?_, ?_⟩
  · have : T.getD x 0 ∈ T := by
      rw [List.getD_eq_getElem?_getD, List.getElem?_eq_getElem hx]
      exact List.getElem_mem hx
    exact hT _ this
  · have hj2 : j < ts.length := by omega
    obtain ⟨c, h1, h2⟩ := L2.paired_get hr (List.getElem?_eq_getElem hj2)
    have e1 : ts.getD j 0 = ts[j] := by rw [List.getD_eq_getElem?_getD, List.getElem?_eq_getElem hj2]; rfl
    obtain ⟨t, ht, rfl⟩ := turned_xc h2
    refine ⟨t, ht, ?_⟩
    have hx : ts[j] < T.length := List.mem_range.mp (hp.mem_iff.mp (List.getElem_mem hj2))
    obtain ⟨f1, f2, f3, f4⟩ := hf _ hx
    rw [List.getD_eq_getElem?_getD, List.getElem?_map, h1]
    show (Xc _ _ _ _ _ t).map f = _
    rw [map_xc, f1, f2, f3, f4]
    rw [e1]
  · have : (List.range T.length).map (fun j => ts.getD j 0) = ts := by
      refine List.ext_getElem? fun i => ?_
      by_cases hi : i < ts.length
      · rw [List.getElem?_map, List.getElem?_range (by omega), List.getElem?_eq_getElem hi]
        show some (ts.getD i 0) = _
        rw [List.getD_eq_getElem?_getD, List.getElem?_eq_getElem hi]
        rfl
      · rw [List.getElem?_eq_none (by rw [List.length_map, List.length_range]; omega), List.getElem?_eq_none (by omega)]
    rw [this]
    exact hp
theorem rows_T (T : List Int) : sT (fun x => T.getD x 0) (List.range T.length) = T.foldl (fun s w => Tw w s) (cf pONE, fun _ => 0) := by
  unfold sT
  congr 1
  refine List.ext_getElem? fun i => ?_
  by_cases hi : i < T.length
  · rw [List.getElem?_map, List.getElem?_range hi, List.getElem?_eq_getElem hi]
    show some (T.getD i 0) = _
    rw [List.getD_eq_getElem?_getD, List.getElem?_eq_getElem hi]
    rfl
  · rw [List.getElem?_eq_none (by rw [List.length_map, List.length_range]; omega), List.getElem?_eq_none (by omega)]
theorem map_id_cs (cs : List (List Int)) : (cs.map fun c => c.map fun x : Int => x) = cs := by
  induction cs with
  | nil => rfl
  | cons c cs ih => rw [List.map_cons, ih, List.map_id']
/-! sums -/
theorem dls_add (f h : Cf) : ∀ n, dls (fun k => f k + h k) n = fun k => dls f n k + dls h n k
  | 0 => rfl
  | n + 1 => by
    show dl (dls (fun k => f k + h k) n) = fun k => dl (dls f n) k + dl (dls h n) k
    rw [dls_add f h n]
    funext k
    exact dl_add _ _ k
theorem dls_dls (f : Cf) (m : Nat) : ∀ n, dls (dls f m) n = dls f (m + n)
  | 0 => rfl
  | n + 1 => by
    show dl (dls (dls f m) n) = dl (dls f (m + n))
    rw [dls_dls f m n]
theorem strands_nil : strandsOf [] = [] := rfl
theorem joining_nil (s : PL) : joiningOf [] s = [] := rfl
theorem sums_one {st : List (PL × PL)} {z : Cf} (h : Rep st [([], z)]) (rings : Nat) : Sf (sumsOf st [] rings) ∧ ∀ J k, sc (sumsOf st [] rings) J k = if J = [] then dls z rings k else 0 := by
  obtain ⟨z1, z2⟩ := sums_rep [] rings (by simp) h
  refine ⟨z1, fun J k => ?_⟩
  rw [z2]
  show ctrS [] rings J [] z k + 0 = _
  unfold ctrS
  rw [joining_nil, Int.add_zero]
theorem webok_of {w : PySem.World} {cs : List (List Int)} (hl : cs.length ≤ 100) (h4 : ∀ c ∈ cs, c.length = 4) (h : ∀ res, Tak cs [] (List.range cs.length) res → (∀ e ∈ res, e.2.length ≤ 8) ∧ ∀ i, StOk w (stAt cs (res.map (·.1)) i) ∧ (stAt cs (res.map (·.1)) i).length ≤ 2) : WebOk w cs :=
  ⟨hl, h4, fun res t => (h res t).1, fun res t i _ => ((h res t).2 i).1⟩
theorem rows4 {a T : List Int} {n : Nat} {cs : List (List Int)} (h : RowsOk a T n cs) : ∀ c ∈ cs, c.length = 4 := by
  obtain ⟨ts, _, hp2⟩ := h
  intro c hc
  obtain ⟨j, hj⟩ := List.getElem?_of_mem hc
  have hj1 := (List.getElem?_eq_some_iff.mp hj).1
  have hj2 : j < ts.length := by rw [Paired.len hp2]; exact hj1
  obtain ⟨c', h1, h2⟩ := L2.paired_get hp2 (List.getElem?_eq_getElem hj2)
  have : c' = c := Option.some.inj (h1.symm.trans hj)
  subst this
  rcases h2 with rfl | rfl
  · exact xing_len _ _ _
  · rw [rot_len]; exact xing_len _ _ _
/-- all hashes are apart -/
def HashAll (w : PySem.World) : Prop := ∀ (p o lp : Int) (n : Nat), (p = 101 ∨ p = 10007 ∨ p = 999999937) → 0 ≤ o → o < p → 1 ≤ lp → lp < p → n ≤ 40 → HashOk w (n + 1) (upA (arcsOf p o lp (2 * n + 2))) (loA (arcsOf p o lp (2 * n + 2)))
theorem wf_two {J1 J2 t1 t2 : PL} (h : J1 ≠ J2) (c1 : Can t1) (c2 : Can t2) : Wf [(J1, t1), (J2, t2)] := by
  refine ⟨by simp [h], fun e he => ?_⟩
  rcases List.mem_cons.mp he with rfl | he
  · exact c1
  · rw [List.mem_singleton.mp he]; exact c2
theorem wf_one {J1 t1 : PL} (c1 : Can t1) : Wf [(J1, t1)] := ⟨by simp, fun e he => by rw [List.mem_singleton.mp he]; exact c1⟩
theorem jA : ([(0, 3), (1, 2)] : PL) ≠ [(0, 1), (2, 3)] := by decide
theorem tS_L : TabS [0, 1, 3, 2] [(0, 2), (1, 3)] [(0, 3), (1, 2)] = true := by decide +kernel
theorem tS_U : TabS [0, 1, 3, 2] [(0, 1), (2, 3)] [(0, 1), (2, 3)] = true := by decide +kernel
theorem tS_0 : TabS [0, 1, 1, 0] [] [(0, 3), (1, 2)] = true := by decide +kernel
/-- the open web -/
theorem good_open {w : PySem.World} (HA : HashAll w) {T : List Int} {p o lp : Int} {cs : List (List Int)} {rings : Nat} (hT : ∀ t ∈ T, t = 1 ∨ t = -1) (hl : T.length ≤ 40) (hp : p = 101 ∨ p = 10007 ∨ p = 999999937) (o0 : 0 ≤ o) (o1 : o < p) (l0 : 1 ≤ lp) (l1 : lp < p)
    (hr : RowsOk (arcsOf p o lp (2 * T.length + 2)) T T.length cs) : Good w cs (endsOf (arcsOf p o lp (2 * T.length + 2)) T) rings (dueOpen T rings) := by
  have hD := dsJ (o := o) hp l0 l1 hl
  have hH := HA p o lp T.length hp o0 o1 l0 l1 hl
  generalize arcsOf p o lp (2 * T.length + 2) = a at hr hD hH
  obtain ⟨tf, W⟩ := webd_of hT hr (fun x => x) (upA a) (loA a) (fun x => upA a (x + 1)) (fun x => loA a (x + 1)) (fun x _ => ⟨rfl, rfl, rfl, rfl⟩)
  rw [map_id_cs] at W
  have ok := fun res t => open_ok (w := w) W hl hD hH (res := res) t
  refine ⟨webok_of (by rw [W.len]; omega) (rows4 hr) fun res t => ⟨(ok res t).1, (ok res t).2.1⟩, fun res t => ⟨?_, fun i _ => Nat.le_trans ((ok res t).2.1 (i + 1)).2 (by decide)⟩⟩
  obtain ⟨_, _, fin⟩ := ok res t
  obtain ⟨k1, k2, k3⟩ := tw_rows T
  obtain ⟨r1, e1⟩ := lring_ok k1 rings
  obtain ⟨r2, e2⟩ := lring_ok k2 rings
  obtain ⟨c1, f1⟩ := lpoly_ok r1
  obtain ⟨c2, f2⟩ := lpoly_ok r2
  obtain ⟨d1, d2⟩ := due_sf (wf_two jA c1 c2)
  have k3' := k3
  have ez : dg (tw T).1 = (T.foldl (fun s w => Tw w s) (cf pONE, fun _ => 0)).1 := congrArg Prod.fst k3
  have ey : dg (tw T).2 = (T.foldl (fun s w => Tw w s) (cf pONE, fun _ => 0)).2 := congrArg Prod.snd k3
  have hdue : ∀ J k, sc (smerge [] (dueOf (dueOpen T rings))) J k = (if J = [(0, 3), (1, 2)] then dls (T.foldl (fun s w => Tw w s) (cf pONE, fun _ => 0)).1 rings k else 0) + (if J = [(0, 1), (2, 3)] then dls (T.foldl (fun s w => Tw w s) (cf pONE, fun _ => 0)).2 rings k else 0) := fun J k => by
    unfold dueOpen
    rw [d2, sc_cons, sc_cons]
    by_cases a1 : J = [(0, 3), (1, 2)]
    · rw [if_pos a1.symm, if_pos a1, if_neg (fun z => jA (a1.symm.trans z)), f1, e1, ez, Int.add_zero]
    · rw [if_neg (fun z => a1 z.symm), if_neg a1]
      by_cases a2 : J = [(0, 1), (2, 3)]
      · rw [if_pos a2.symm, if_pos a2, f2, e2, ey, Int.zero_add]
      · rw [if_neg (fun z => a2 z.symm), if_neg a2]
        rfl
  rcases fin with ⟨n0, fin⟩ | fin
  · rw [fin]
    obtain ⟨z1, z2⟩ := sums_rep (endsOf a T) rings (by simp) store0_rep
    refine sf_eq z1 d1 fun J k => ?_
    rw [z2, hdue]
    have T0 : T = [] := List.length_eq_zero_iff.mp n0
    subst T0
    show ctrS (endsOf a []) rings J [] (cf pONE) k + 0 = _
    unfold ctrS
    have hd0 : Ds [upA a 0, loA a 0] := hD [0] (by simp) (by simp)
    have := tabS_ok hd0.inj (ends := [0, 1, 1, 0]) two0 tS_0
    rw [show key (gL [upA a 0, loA a 0]) [] = [] from k0] at this
    have e3 : ([0, 1, 1, 0] : List Int).map (gL [upA a 0, loA a 0]) = endsOf a [] := rfl
    rw [e3] at this
    rw [this]
    show (if J = [(0, 3), (1, 2)] then dls (cf pONE) rings k else 0) + 0 = (if J = [(0, 3), (1, 2)] then dls (cf pONE) rings k else 0) + (if J = [(0, 1), (2, 3)] then dls (fun _ => 0) rings k else 0)
    rw [dls_zero]
    congr 1
    split <;> rfl
  · obtain ⟨n1, fin⟩ := fin
    have d4 : Ds [upA a 0, loA a 0, upA a T.length, loA a T.length] := hD [0, T.length] (by simp; omega) (by simp)
    have kn := kne d4
    obtain ⟨z1, z2⟩ := sums_rep (endsOf a T) rings (by simp [kn]) fin
    refine sf_eq z1 d1 fun J k => ?_
    rw [z2, hdue, rows_T]
    show ctrS (endsOf a T) rings J (KL _ _ _ _) _ k + (ctrS (endsOf a T) rings J (KU _ _ _ _) _ k + 0) = _
    unfold ctrS
    have e3 : ([0, 1, 3, 2] : List Int).map (gL [upA a 0, loA a 0, upA a T.length, loA a T.length]) = endsOf a T := rfl
    have t1 := tabS_ok d4.inj (ends := [0, 1, 3, 2]) two2 tS_L
    have t2 := tabS_ok d4.inj (ends := [0, 1, 3, 2]) two2 tS_U
    rw [e3] at t1 t2
    have t1' : joiningOf (endsOf a T) (strandsOf (KL (upA a 0) (loA a 0) (upA a T.length) (loA a T.length))) = [(0, 3), (1, 2)] := t1
    have t2' : joiningOf (endsOf a T) (strandsOf (KU (upA a 0) (loA a 0) (upA a T.length) (loA a T.length))) = [(0, 1), (2, 3)] := t2
    rw [t1', t2', Int.add_zero]
/-- what is due of a closed web -/
theorem due_closed (T : List Int) (way rings : Nat) : Sf (smerge [] (dueOf (dueClosed T way rings))) ∧ ∀ J k, sc (smerge [] (dueOf (dueClosed T way rings))) J k =
    if J = [] then dls (T.foldl (fun s w => Tw w s) (cf pONE, fun _ => 0)).1 (2 - way + rings) k + dls (T.foldl (fun s w => Tw w s) (cf pONE, fun _ => 0)).2 (1 + way + rings) k else 0 := by
  obtain ⟨k1, k2, k3⟩ := tw_rows T
  obtain ⟨r1, e1⟩ := lring_ok k1 (2 - way + rings)
  obtain ⟨r2, e2⟩ := lring_ok k2 (1 + way + rings)
  obtain ⟨c1, f1⟩ := lpoly_ok (KN.lput (lift := 0) (by_ := 1) r1 r2)
  obtain ⟨d1, d2⟩ := due_sf (wf_one (J1 := []) c1)
  have ez : dg (tw T).1 = (T.foldl (fun s w => Tw w s) (cf pONE, fun _ => 0)).1 := congrArg Prod.fst k3
  have ey : dg (tw T).2 = (T.foldl (fun s w => Tw w s) (cf pONE, fun _ => 0)).2 := congrArg Prod.snd k3
  refine ⟨d1, fun J k => ?_⟩
  unfold dueClosed
  rw [d2, sc_cons]
  by_cases h : J = []
  · rw [if_pos h, if_pos h.symm, f1, dg_lput r1 r2, e1, e2, ez, ey, Int.sub_zero, Int.one_mul]
  · rw [if_neg h, if_neg (fun z => h z.symm)]
    rfl
end TH
end
section
set_option Elab.async false
set_option linter.all false
namespace TH
theorem range0_tak {cs : List (List Int)} (hc : cs.length = 0) {res : List (Nat × List Int)} (h : Tak cs [] (List.range cs.length) res) : res = [] := by
  have := tak_len h
  rw [List.length_range, hc] at this
  exact List.length_eq_zero_iff.mp this
/-- no crossing at all -/
theorem good_nil (w : PySem.World) {T : List Int} (hT : T = []) (way rings more : Nat) (hm : 2 - way = more) : Good w [] [] (rings + more) (dueClosed T way rings) := by
  have hs : ∀ res, Tak [] [] (List.range ([] : List (List Int)).length) res → ∀ i, stAt [] (res.map (·.1)) i = store0 := fun res t i => by
    rw [range0_tak rfl t]
    unfold stAt
    rw [List.map_nil, List.take_nil]
    rfl
  refine ⟨webok_of (Nat.zero_le _) (fun c hc => nomatch hc) fun res t => ⟨fun e he => ?_, fun i => ?_⟩, fun res t => ⟨?_, fun i hi => nomatch hi⟩⟩
  · rw [range0_tak rfl t] at he
    exact nomatch he
  · rw [hs res t i]
    exact store0_ok w
  · rw [hs res t]
    obtain ⟨z1, z2⟩ := sums_one store0_rep (rings + more)
    obtain ⟨d1, d2⟩ := due_closed T way rings
    refine sf_eq z1 d1 fun J k => ?_
    rw [z2, d2, hT]
    show _ = if J = [] then dls (cf pONE) (2 - way + rings) k + dls (fun _ => 0) (1 + way + rings) k else 0
    rw [dls_zero, hm, Int.add_zero, Nat.add_comm more rings]
/-- a closed web, behind all its crossings -/
theorem good_of {w : PySem.World} {cs : List (List Int)} {T : List Int} {way rings : Nat} {z : Cf} (hl : cs.length ≤ 100) (h4 : ∀ c ∈ cs, c.length = 4)
    (ok : ∀ res, Tak cs [] (List.range cs.length) res → (∀ e ∈ res, e.2.length ≤ 8) ∧ (∀ i, StOk w (stAt cs (res.map (·.1)) i) ∧ (stAt cs (res.map (·.1)) i).length ≤ 2) ∧ Rep (stAt cs (res.map (·.1)) cs.length) [([], z)])
    (hz : ∀ k, dls z rings k = dls (T.foldl (fun s w => Tw w s) (cf pONE, fun _ => 0)).1 (2 - way + rings) k + dls (T.foldl (fun s w => Tw w s) (cf pONE, fun _ => 0)).2 (1 + way + rings) k) : Good w cs [] rings (dueClosed T way rings) := by
  refine ⟨webok_of hl h4 fun res t => ⟨(ok res t).1, (ok res t).2.1⟩, fun res t => ⟨?_, fun i _ => Nat.le_trans ((ok res t).2.1 (i + 1)).2 (by decide)⟩⟩
  obtain ⟨z1, z2⟩ := sums_one (ok res t).2.2 rings
  obtain ⟨d1, d2⟩ := due_closed T way rings
  refine sf_eq z1 d1 fun J k => ?_
  rw [z2, d2, hz]
def ren (old new : Int) (x : Int) : Int := if x = old then new else x
theorem nmd_ren (old new : Int) (c : List Int) : nmd old new c = c.map (ren old new) := rfl
theorem two_ren (cs : List (List Int)) (a b c d : Int) : (cs.map (nmd a b)).map (nmd c d) = cs.map fun x => x.map fun y => ren c d (ren a b y) := by
  rw [List.map_map]
  refine List.map_congr_left fun x _ => ?_
  show (x.map (ren a b)).map (ren c d) = _
  rw [List.map_map]
  rfl
theorem ren_ne {a b x : Int} (h : x ≠ a) : ren a b x = x := if_neg h
theorem ren_eq (a b : Int) : ren a b a = b := if_pos rfl
theorem map4 {cs : List (List Int)} (h : ∀ c ∈ cs, c.length = 4) (f : Int → Int) : ∀ c ∈ cs.map (fun x => x.map f), c.length = 4 := fun c hc => by
  obtain ⟨x, hx, rfl⟩ := List.mem_map.mp hc
  rw [List.length_map]
  exact h x hx
section
variable {w : PySem.World} {T : List Int} {p o lp : Int} {cs : List (List Int)} {rings : Nat}
/-- arcs of two junctions -/
theorem arc4 {U Lo : Nat → Int} {N : Nat} (hD : DsJ N U Lo) {x y : Nat} (h : x ≠ y) (hx : x < N) (hy : y < N) : U x ≠ Lo x ∧ U x ≠ U y ∧ U x ≠ Lo y ∧ Lo x ≠ U y ∧ Lo x ≠ Lo y ∧ U y ≠ Lo y := by
  have d : Ds [U x, Lo x, U y, Lo y] := hD [x, y] (by simp [h]) (by simp; omega)
  have := d.1
  simp at this
  omega
theorem arc2 {U Lo : Nat → Int} {N : Nat} (hD : DsJ N U Lo) {x : Nat} (hx : x < N) : U x ≠ Lo x := by
  have d : Ds [U x, Lo x] := hD [x] (by simp) (by simp; omega)
  have := d.1
  simp at this
  omega
theorem good_cyc (HA : HashAll w) (hT : ∀ t ∈ T, t = 1 ∨ t = -1) (hl : T.length ≤ 40) (hp : p = 101 ∨ p = 10007 ∨ p = 999999937) (o0 : 0 ≤ o) (o1 : o < p) (l0 : 1 ≤ lp) (l1 : lp < p)
    (hr : RowsOk (arcsOf p o lp (2 * T.length + 2)) T T.length cs) :
    (clStep (clStep (cs, pairsOf (endsOf (arcsOf p o lp (2 * T.length + 2)) T) 0, 0))).2.2 ≤ 2 ∧
    Good w (clStep (clStep (cs, pairsOf (endsOf (arcsOf p o lp (2 * T.length + 2)) T) 0, 0))).1 [] (rings + (clStep (clStep (cs, pairsOf (endsOf (arcsOf p o lp (2 * T.length + 2)) T) 0, 0))).2.2) (dueClosed T 0 rings) := by
  have hD := dsJ (o := o) hp l0 l1 hl
  have hH := HA p o lp T.length hp o0 o1 l0 l1 hl
  generalize arcsOf p o lp (2 * T.length + 2) = a at hr hD hH
  have hcl := hr.len
  by_cases n0 : T.length = 0
  · have hT0 := List.length_eq_zero_iff.mp n0
    have hc0 : cs = [] := List.length_eq_zero_iff.mp (by rw [hcl, n0])
    subst hc0
    have e : clStep (clStep ([], pairsOf (endsOf a T) 0, 0)) = ([], [], 2) := by
      rw [hT0]
      show clStep ([], [[ren (upA a 0) (upA a 0) (loA a 0), ren (upA a 0) (upA a 0) (loA a 0)]], 0 + if upA a 0 = upA a 0 then 1 else 0) = _
      rw [if_pos rfl]
      show ([], [], 0 + 1 + if ren (upA a 0) (upA a 0) (loA a 0) = ren (upA a 0) (upA a 0) (loA a 0) then 1 else 0) = _
      rw [if_pos rfl]
    rw [e]
    exact ⟨Nat.le_refl 2, good_nil w hT0 0 rings 2 rfl⟩
  · obtain ⟨a1, a2, a3, a4, a5, a6⟩ := arc4 hD (show 0 ≠ T.length by omega) (by omega) (by omega)
    have e : clStep (clStep (cs, pairsOf (endsOf a T) 0, 0)) = ((cs.map (nmd (upA a T.length) (upA a 0))).map (nmd (loA a T.length) (loA a 0)), [], 0) := by
      show clStep (cs.map (nmd (upA a T.length) (upA a 0)), [[ren (upA a T.length) (upA a 0) (loA a 0), ren (upA a T.length) (upA a 0) (loA a T.length)]], 0 + if upA a 0 = upA a T.length then 1 else 0) = _
      rw [if_neg a2, ren_ne a4, ren_ne (fun z => a6 z.symm)]
      show ((cs.map (nmd (upA a T.length) (upA a 0))).map (nmd (loA a T.length) (loA a 0)), [], 0 + 0 + if loA a 0 = loA a T.length then 1 else 0) = _
      rw [if_neg a5]
    rw [e]
    refine ⟨Nat.zero_le _, ?_⟩
    show Good w ((cs.map (nmd (upA a T.length) (upA a 0))).map (nmd (loA a T.length) (loA a 0))) [] rings (dueClosed T 0 rings)
    rw [two_ren]
    obtain ⟨tf, W⟩ := webd_of hT hr (fun y => ren (loA a T.length) (loA a 0) (ren (upA a T.length) (upA a 0) y)) (upA a) (loA a) (fun x => upA a (nx T.length x)) (fun x => loA a (nx T.length x)) (fun x hx => by
      obtain ⟨b1, b2, b3, b4, b5, b6⟩ := arc4 hD (show x ≠ T.length by omega) (by omega) (by omega)
      refine ⟨?_, ?_, ?_, ?_⟩
      · rw [ren_ne b2, ren_ne b3]
      · rw [ren_ne b4, ren_ne b5]
      · unfold nx
        by_cases q : x + 1 = T.length
        · rw [if_pos q, q, ren_eq, ren_ne a3]
        · obtain ⟨c1, c2, c3, c4, c5, c6⟩ := arc4 hD q (by omega) (by omega)
          rw [if_neg q, ren_ne c2, ren_ne c3]
      · unfold nx
        by_cases q : x + 1 = T.length
        · rw [if_pos q, q, ren_ne (fun z => a6 z.symm), ren_eq]
        · obtain ⟨c1, c2, c3, c4, c5, c6⟩ := arc4 hD q (by omega) (by omega)
          rw [if_neg q, ren_ne c4, ren_ne c5])
    have hD' : DsJ T.length (upA a) (loA a) := fun js h1 h2 => hD js h1 fun x hx => by have := h2 x hx; omega
    have hH' : HashOk w T.length (upA a) (loA a) := fun i j hi hj => hH i j (by omega) (by omega)
    refine good_of (by rw [List.length_map, hcl]; omega) (map4 (rows4 hr) _) (fun res t => ?_) (fun k => ?_) (z := total (sT (fun x => T.getD x 0) (List.range T.length)))
    · obtain ⟨z1, z2, z3⟩ := cyc_ok (w := w) W hl hD' hH' t
      exact ⟨z1, z2, z3 (by omega)⟩
    · rw [rows_T]
      show dls (fun k => dls _ 2 k + dls _ 1 k) rings k = _
      rw [dls_add, dls_dls, dls_dls]
theorem good_cap (hT : ∀ t ∈ T, t = 1 ∨ t = -1) (hl : T.length ≤ 40) (hp : p = 101 ∨ p = 10007 ∨ p = 999999937) (o0 : 0 ≤ o) (o1 : o < p) (l0 : 1 ≤ lp) (l1 : lp < p)
    (hr : RowsOk (arcsOf p o lp (2 * T.length + 2)) T T.length cs) :
    (clStep (clStep (cs, pairsOf (endsOf (arcsOf p o lp (2 * T.length + 2)) T) 1, 0))).2.2 ≤ 2 ∧
    Good w (clStep (clStep (cs, pairsOf (endsOf (arcsOf p o lp (2 * T.length + 2)) T) 1, 0))).1 [] (rings + (clStep (clStep (cs, pairsOf (endsOf (arcsOf p o lp (2 * T.length + 2)) T) 1, 0))).2.2) (dueClosed T 1 rings) := by
  have hD := dsJ (o := o) hp l0 l1 hl
  generalize arcsOf p o lp (2 * T.length + 2) = a at hr hD
  have hcl := hr.len
  by_cases n0 : T.length = 0
  · have hT0 := List.length_eq_zero_iff.mp n0
    have hc0 : cs = [] := List.length_eq_zero_iff.mp (by rw [hcl, n0])
    subst hc0
    have a1 := arc2 hD (show 0 < T.length + 1 by omega)
    have e : clStep (clStep ([], pairsOf (endsOf a T) 1, 0)) = ([], [], 1) := by
      rw [hT0]
      show clStep ([], [[ren (loA a 0) (upA a 0) (loA a 0), ren (loA a 0) (upA a 0) (upA a 0)]], 0 + if upA a 0 = loA a 0 then 1 else 0) = _
      rw [if_neg a1, ren_eq, ren_ne a1]
      show ([], [], 0 + 0 + if upA a 0 = upA a 0 then 1 else 0) = _
      rw [if_pos rfl]
    rw [e]
    exact ⟨by decide, good_nil w hT0 1 rings 1 rfl⟩
  · obtain ⟨a1, a2, a3, a4, a5, a6⟩ := arc4 hD (show 0 ≠ T.length by omega) (by omega) (by omega)
    have e : clStep (clStep (cs, pairsOf (endsOf a T) 1, 0)) = ((cs.map (nmd (loA a 0) (upA a 0))).map (nmd (upA a T.length) (loA a T.length)), [], 0) := by
      show clStep (cs.map (nmd (loA a 0) (upA a 0)), [[ren (loA a 0) (upA a 0) (loA a T.length), ren (loA a 0) (upA a 0) (upA a T.length)]], 0 + if upA a 0 = loA a 0 then 1 else 0) = _
      rw [if_neg a1, ren_ne (fun z => a5 z.symm), ren_ne (fun z => a4 z.symm)]
      show ((cs.map (nmd (loA a 0) (upA a 0))).map (nmd (upA a T.length) (loA a T.length)), [], 0 + 0 + if loA a T.length = upA a T.length then 1 else 0) = _
      rw [if_neg (fun z => a6 z.symm)]
    rw [e]
    refine ⟨Nat.zero_le _, ?_⟩
    show Good w ((cs.map (nmd (loA a 0) (upA a 0))).map (nmd (upA a T.length) (loA a T.length))) [] rings (dueClosed T 1 rings)
    rw [two_ren]
    obtain ⟨tf, W⟩ := webd_of hT hr (fun y => ren (upA a T.length) (loA a T.length) (ren (loA a 0) (upA a 0) y)) (upA a) (fun x => if x = 0 then upA a 0 else loA a x) (fun x => if x + 1 = T.length then loA a T.length else upA a (x + 1)) (fun x => loA a (x + 1)) (fun x hx => by
      obtain ⟨b1, b2, b3, b4, b5, b6⟩ := arc4 hD (show x ≠ T.length by omega) (by omega) (by omega)
      obtain ⟨c1, c2, c3, c4, c5, c6⟩ := arc4 hD (show 0 ≠ x + 1 by omega) (by omega) (by omega)
      refine ⟨?_, ?_, ?_, ?_⟩
      · by_cases x0 : x = 0
        · subst x0
          rw [ren_ne b1, ren_ne b2]
        · obtain ⟨d1, d2, d3, d4, d5, d6⟩ := arc4 hD (show 0 ≠ x by omega) (by omega) (by omega)
          rw [ren_ne (fun z => d4 z.symm), ren_ne b2]
      · by_cases x0 : x = 0
        · subst x0
          rw [if_pos rfl, ren_eq, ren_ne b2]
        · obtain ⟨d1, d2, d3, d4, d5, d6⟩ := arc4 hD (show 0 ≠ x by omega) (by omega) (by omega)
          rw [if_neg x0, ren_ne (fun z => d5 z.symm), ren_ne b4]
      · by_cases q : x + 1 = T.length
        · rw [if_pos q, q, ren_ne (fun z => a4 z.symm), ren_eq]
        · obtain ⟨d1, d2, d3, d4, d5, d6⟩ := arc4 hD q (by omega) (by omega)
          rw [if_neg q, ren_ne (fun z => c4 z.symm), ren_ne d2]
      · rw [ren_ne (fun z => c5 z.symm)]
        by_cases q : x + 1 = T.length
        · rw [q, ren_ne (fun z => a6 z.symm)]
        · obtain ⟨d1, d2, d3, d4, d5, d6⟩ := arc4 hD q (by omega) (by omega)
          rw [ren_ne d4])
    refine good_of (by rw [List.length_map, hcl]; omega) (map4 (rows4 hr) _) (fun res t => ?_) (fun k => ?_) (z := dl (cap (sT (fun x => T.getD x 0) (List.range T.length))))
    · obtain ⟨z1, z2, z3⟩ := cap_ok (w := w) W hl hD t
      exact ⟨z1, z2, z3 (by omega)⟩
    · rw [rows_T]
      show dls (dls (fun k => _ + dls _ 1 k) 1) rings k = _
      rw [dls_add, dls_add, dls_dls, dls_dls, dls_dls, show 1 + (1 + rings) = 1 + 1 + rings by omega]
theorem lawMath_of (HA : HashAll w) : LawMath w := fun T p o lp cs rings hT hl hp o0 o1 l0 l1 _ hr =>
  ⟨good_open HA hT hl hp o0 o1 l0 l1 hr, fun way hw => by
    have : way = 0 ∨ way = 1 := by omega
    rcases this with rfl | rfl
    · exact good_cyc HA hT hl hp o0 o1 l0 l1 hr
    · exact good_cap hT hl hp o0 o1 l0 l1 hr⟩
end
end TH
end
section
set_option Elab.async false
set_option linter.all false
/-! forms that show a lattice has no point in a box -/
namespace TH
def dot : List Int → List Int → Int
  | a :: as, b :: bs => a * b + dot as bs
  | _, _ => 0
def addL : List Int → List Int → List Int
  | [], b => b
  | a, [] => a
  | a :: as, b :: bs => (a + b) :: addL as bs
def mulL (k : Int) : List Int → List Int
  | [] => []
  | a :: as => k * a :: mulL k as
theorem dot_nil (v : List Int) : dot [] v = 0 := by cases v <;> rfl
theorem dot_addL : ∀ a b v : List Int, dot (addL a b) v = dot a v + dot b v
  | [], b, v => by rw [show addL [] b = b by cases b <;> rfl, dot_nil, Int.zero_add]
  | a :: as, [], v => by rw [show addL (a :: as) [] = a :: as from rfl, dot_nil, Int.add_zero]
  | a :: as, b :: bs, [] => rfl
  | a :: as, b :: bs, x :: v => by
    show (a + b) * x + dot (addL as bs) v = (a * x + dot as v) + (b * x + dot bs v)
    rw [dot_addL as bs v, Int.add_mul]
    omega
theorem dot_mulL (k : Int) : ∀ a v : List Int, dot (mulL k a) v = k * dot a v
  | [], v => by rw [show mulL k [] = [] from rfl, dot_nil, Int.mul_zero]
  | a :: as, [] => by show (0 : Int) = k * 0; rw [Int.mul_zero]
  | a :: as, x :: v => by
    show k * a * x + dot (mulL k as) v = k * (a * x + dot as v)
    rw [dot_mulL k as v, Int.mul_add, Int.mul_assoc]
/-- all entries are multiples of m -/
def zeroL (m : Int) : List Int → Bool
  | [] => true
  | a :: as => (a % m == 0) && zeroL m as
theorem dvd_dot {m : Int} : ∀ {a : List Int} (v : List Int), zeroL m a = true → m ∣ dot a v
  | [], v, _ => by rw [dot_nil]; exact ⟨0, by rw [Int.mul_zero]⟩
  | a :: as, [], _ => ⟨0, by rw [Int.mul_zero]; rfl⟩
  | a :: as, x :: v, h => by
    unfold zeroL at h
    rw [Bool.and_eq_true, beq_iff_eq] at h
    exact Int.dvd_add (Int.dvd_trans (Int.dvd_of_emod_eq_zero h.1) ⟨x, rfl⟩) (dvd_dot v h.2)
/-- how large a form can be in a box -/
def sizeL : List Int → List Int → Int
  | a :: as, b :: bs => a.natAbs * b + sizeL as bs
  | _, _ => 0
def InBox : List Int → List Int → Prop
  | x :: v, b :: bs => -b ≤ x ∧ x ≤ b ∧ InBox v bs
  | [], [] => True
  | _, _ => False
theorem le_sizeL : ∀ {a v box : List Int}, InBox v box → -(sizeL a box) ≤ dot a v ∧ dot a v ≤ sizeL a box
  | [], v, box, h => by rw [dot_nil]; cases box <;> exact ⟨Int.le_refl 0, Int.le_refl 0⟩
  | a :: as, [], [], h => ⟨Int.le_refl 0, Int.le_refl 0⟩
  | a :: as, [], b :: bs, h => h.elim
  | a :: as, x :: v, [], h => h.elim
  | a :: as, x :: v, b :: bs, h => by
    obtain ⟨h1, h2, h3⟩ := h
    obtain ⟨i1, i2⟩ := le_sizeL (a := as) h3
    show -((a.natAbs : Int) * b + sizeL as bs) ≤ a * x + dot as v ∧ a * x + dot as v ≤ (a.natAbs : Int) * b + sizeL as bs
    have hb : a * x ≤ (a.natAbs : Int) * b ∧ -((a.natAbs : Int) * b) ≤ a * x := by
      have n0 : (0 : Int) ≤ (a.natAbs : Int) := Int.natCast_nonneg _
      have m1 := Int.mul_le_mul_of_nonneg_left h2 n0
      have m2 := Int.mul_le_mul_of_nonneg_left h1 n0
      rw [Int.mul_neg] at m2
      rcases Int.natAbs_eq a with e | e
      · have ex : a * x = (a.natAbs : Int) * x := by rw [← e]
        omega
      · have ex : a * x = -((a.natAbs : Int) * x) := by
          rw [← Int.neg_mul, ← e]
        omega
    omega
def comb : List Int → List (List Int) → List Int
  | m :: ms, r :: rs => addL (mulL m r) (comb ms rs)
  | _, _ => []
theorem dvd_comb {m : Int} {v : List Int} : ∀ (ms : List Int) (rs : List (List Int)), (∀ r ∈ rs, m ∣ dot r v) → m ∣ dot (comb ms rs) v
  | [], rs, _ => by rw [show comb [] rs = [] by cases rs <;> rfl, dot_nil]; exact ⟨0, by rw [Int.mul_zero]⟩
  | k :: ms, [], _ => by rw [show comb (k :: ms) [] = [] from rfl, dot_nil]; exact ⟨0, by rw [Int.mul_zero]⟩
  | k :: ms, r :: rs, h => by
    show m ∣ dot (addL (mulL k r) (comb ms rs)) v
    rw [dot_addL, dot_mulL]
    exact Int.dvd_add (Int.dvd_mul_of_dvd_right (h r List.mem_cons_self)) (dvd_comb ms rs fun x hx => h x (List.mem_cons_of_mem _ hx))
theorem zero_comb {v : List Int} : ∀ (ms : List Int) (rs : List (List Int)), (∀ r ∈ rs, dot r v = 0) → dot (comb ms rs) v = 0
  | [], rs, _ => by rw [show comb [] rs = [] by cases rs <;> rfl, dot_nil]
  | k :: ms, [], _ => by rw [show comb (k :: ms) [] = [] from rfl, dot_nil]
  | k :: ms, r :: rs, h => by
    show dot (addL (mulL k r) (comb ms rs)) v = 0
    rw [dot_addL, dot_mulL, h r List.mem_cons_self, zero_comb ms rs fun x hx => h x (List.mem_cons_of_mem _ hx), Int.mul_zero]
    rfl
/-- 2^64 and the two primes -/
abbrev cM : Int := 18446744073709551616
abbrev c1 : Int := 11400714785074694791
abbrev c2 : Int := 14029467366897019727
abbrev cI2 : Int := 839798700976720815
/-- the multipliers of a form: np parameters, one for the special case, four quotients, four rests -/
def msOf (np : Nat) (f : List Int) : List Int :=
  let h := f.drop (np + 5)
  [-(h.getD 0 0), -(h.getD 1 0), -(h.getD 2 0), -(h.getD 3 0), (cI2 * (f.getD (np + 4) 0 - 8589934592 * h.getD 3 0)) % cM]
def fitL (rels : List (List Int)) (np : Nat) (box f : List Int) : Bool :=
  zeroL cM (addL f (mulL (-1) (comb (msOf np f) rels))) && decide (sizeL f box < cM)
def certOK (rels : List (List Int)) (np : Nat) (box : List Int) (forms : List (List Int)) (cs : List Int) : Bool :=
  (forms.all fun f => fitL rels np box f) && (comb cs forms == cM :: List.replicate (np + 8) 0)
theorem fit_zero {rels : List (List Int)} {np : Nat} {box f v : List Int} (h : fitL rels np box f = true) (hr : ∀ r ∈ rels, cM ∣ dot r v) (hb : InBox v box) : dot f v = 0 := by
  unfold fitL at h
  rw [Bool.and_eq_true, decide_eq_true_eq] at h
  have d1 := dvd_dot v h.1
  rw [dot_addL, dot_mulL] at d1
  have d2 := dvd_comb (msOf np f) rels hr
  have d3 : cM ∣ dot f v := by
    have := Int.dvd_add d1 d2
    have e : dot f v + -1 * dot (comb (msOf np f) rels) v + dot (comb (msOf np f) rels) v = dot f v := by omega
    rw [e] at this
    exact this
  obtain ⟨q, hq⟩ := d3
  obtain ⟨b1, b2⟩ := le_sizeL (a := f) hb
  have h2 : sizeL f box < 18446744073709551616 := h.2
  have hq2 : dot f v = 18446744073709551616 * q := hq
  omega
theorem dot_zeros (n : Nat) : ∀ v : List Int, dot (List.replicate n 0) v = 0 := by
  induction n with
  | zero => exact fun v => dot_nil v
  | succ n ih =>
    intro v
    cases v with
    | nil => rfl
    | cons x v =>
      show 0 * x + dot (List.replicate n 0) v = 0
      rw [ih, Int.zero_mul]
      rfl
theorem cert_zero {rels : List (List Int)} {np : Nat} {box : List Int} {forms : List (List Int)} {cs : List Int} (h : certOK rels np box forms cs = true) {x : Int} {v : List Int} (hr : ∀ r ∈ rels, cM ∣ dot r (x :: v)) (hb : InBox (x :: v) box) : x = 0 := by
  unfold certOK at h
  rw [Bool.and_eq_true, List.all_eq_true, beq_iff_eq] at h
  have z := zero_comb cs forms (v := x :: v) fun f hf => fit_zero (h.1 f hf) hr hb
  rw [h.2] at z
  have z2 : cM * x + dot (List.replicate (np + 8) 0) v = 0 := z
  rw [dot_zeros] at z2
  have z3 : (18446744073709551616 : Int) * x + 0 = 0 := z2
  omega
end TH
end
section
set_option Elab.async false
set_option linter.all false
set_option maxRecDepth 100000
/-! the certificates, printed by emit.py -/
namespace TH
/-- accumulators that give 2^64 - 1 and its stand-in -/
abbrev cXs : Int := 9148689060682678900
abbrev cXt : Int := 15881292906973731817
abbrev cKK : Int := 18040340633101971677
abbrev e31 : Int := 2147483648
abbrev e33 : Int := 8589934592
def relsOf (be ga ep : List Int) : List (List Int) :=
  [mulL c2 be ++ [0, -e33, 0, 0, 0, -1, 0, 0, 0],
   mulL (c1 * c2 * (e31 * c2)) be ++ [0, c1 * c2, -e33, 0, 0, 0, -1, 0, 0],
   mulL c2 ga ++ [0, 0, 0, -e33, 0, 0, 0, -1, 0],
   addL (mulL (c1 * (e31 * c2)) ga) (mulL c2 ep) ++ [0, 0, 0, c1, -e33, 0, 0, 0, -1],
   addL (mulL (e31 * (c1 * c2 * (e31 * c2))) be) (addL (mulL (c2 * (e31 * (c1 * (e31 * c2)))) ga) (mulL (c2 * (e31 * c2)) ep)) ++ [-cKK, e31 * (c1 * c2), 1, c2 * (e31 * c1), c2, 0, 0, 0, 0]]
def boxOf (pb : List Int) : List Int := pb ++ [1, 2147483647, 2147483647, 2147483647, 2147483647, 8589934591, 8589934591, 8589934591, 8589934591]
abbrev Cert := List (List Int) × List Int
abbrev bigP : Int := 999999937
def ctI : Cert := ([[-2243868586, -469447633148284464, -703602017, 478235632, 450346171, -279199984, 229369952, -88529415, -69497558, 122976979], [929947496, 111389767096360385, 160384625, -75284533, 63226557, -634648411, -126223637, 60350327, 156314371, -154109339], [341735206, 3345949627188755, 271828488, -441133999, -160523821, 197648383, 20372933, 151317816, -23039297, -145263957], [-1718586762, 943035475701740496, -267174985, 457482736, 268135646, 362105104, 82548222, -19218783, -13605208, 93172302], [551484806, 979105881241745277, 67421698, -5023521, 119651260, 479797713, 81873246, -40125746, -127608328, -40970596], [264407623, 529225084860487707, 327040407, -441213271, -333191771, -402187993, -102167424, -17334335, 25387017, -84704627], [292482673, 466657532831117175, 158498185, -53596771, 347309084, -125619597, 104496187, 62704159, -81291654, 118663676], [-263832671, -26412233496065897, -171248620, -137850371, 294991571, 90983443, 96274673, -79113204, 115668736, 129808299], [-390466798, 454849790792274053, -367137370, 311767095, -520910868, -36151815, 27769005, 100126154, -1759237, -51451828], [-817596482, -107325323809032852, -463358085, -254025308, 137215019, 63712668, -57028271, 21801597, 52581939, 16107971]], [-2382217698, 2283872126, -4594364402, -7262418784, 5401354381, -4832389124, 2701725489, 2470470285, 3551630553, 472395533])
def ctII : Cert := ([[1713810325, -335453697021044827, -420249146, 319262359, 441151836, -448422503, 53739361, 75982506, 85096386, -84348612], [166573697, -506721760184035258, 105448102, -99074558, -143428059, 370079902, -164009506, -202030902, -29734917, -12716275], [-264514464, -234712203928761018, -259941196, -80165630, -187884778, 386245022, -20377946, 134982764, 87439319, -137929658], [-38992894, -491474598239113066, 109286901, 40415602, -73618089, 697985070, -11861519, -10420845, -129797170, -103328433], [-631721986, -818381107720427415, -404310853, -243906301, -208683716, 67258605, -24228998, 62426941, -121480028, -6028260], [532136915, 78876555731622283, 493175038, -502962567, -78835904, -1068457, -5158141, 71636530, 126368565, 31848768], [-237214425, -255888665681948870, -126658752, 84653182, 824492731, -140223262, 81763882, 19012288, -80966839, -56217389], [-329821881, -538191282705441718, -313598646, 171609134, 152093440, -19432398, 100253303, 19224774, 55183425, 143989504], [-64311890, 614108260200137098, 36207659, -364345874, -415716504, 174771826, -4423498, -160740019, -18550227, -22989656], [-439694221, -157458308429689885, 535247849, -123978687, -344374576, -262520049, 80495027, -89627969, 22193674, 27964752]], [7341894352, -1483569511, -7053656459, 6379799336, 581134195, 4515718934, -4828605013, 253500249, 2685711410, -3569023295])
def ctS : Cert := ([[24747424603217, 45400994902751, 109936057067745776, -289313517, -315089584, -470644187, 762936240, -50868324, -42239323, 122955259, -237720819], [5761399545826, 154785842487018, -706844706531877917, -472712644, -306910143, -775245707, -58158321, -97218585, -21721564, 102453605, -109183011], [-6675272477577, 42127260750474, -262878980836721850, 238467620, 465829634, -511963344, -130381922, 6230618, -120191876, -36590413, 75148464], [48478183649807, -106763356104039, 85595814308837252, 90097280, 109003948, -420052520, -406842092, 28430593, -11149952, -106746302, -117026152], [32910844865515, 78561057958688, -467436310860422714, -607973817, -718739838, -398787884, 81819678, -25647724, -47384943, -11271111, 12107892], [-14243082235909, -57986881332580, -834370436361479701, -277061033, -111748455, -429700657, 36431927, -154899741, 56510721, -13606792, 35721095], [13132712243331, 84474309011533, -321118116768589207, 212343667, 496283395, 462814562, 17154797, 35577423, 46048069, -114579236, 97499634], [-68282383961257, -50378111269775, 550605708557207811, 592212564, -205378399, 92835153, -197685073, 30209114, 106209228, -76592685, -1353575], [-62281581493413, -35617604409346, -207136651594497032, -106115391, 230975400, 184442417, -102550312, 101603287, 129841063, -16921588, 120313977], [-44300457121665, -12002750568199, -1077645670181077116, 366005174, -108225364, -82886401, 145112340, -47993088, -35674566, 32395985, -69671881], [89511308593481, 6294422129531, -199647381665345518, 129253227, 155380166, -53451409, 171370010, -32645614, -4137971, 68753913, 130957351]], [-330, 12162, -58651, 77016, 19570, -31677, 37241, -12590, -25512, -4893, 111830])
theorem okI : certOK (relsOf [1] [-1] [0]) 1 (boxOf [999999936]) ctI.1 ctI.2 = true := by decide +kernel
theorem okII : certOK (relsOf [1] [0] [-1]) 1 (boxOf [999999936]) ctII.1 ctII.2 = true := by decide +kernel
theorem okS : certOK (relsOf [1, 1] [-1, 0] [0, -1]) 2 (boxOf [10006, 10006]) ctS.1 ctS.2 = true := by decide +kernel
def okA (c : Int) (t : Cert) : Bool := certOK (relsOf [c + 1, -bigP] [-c, bigP] [-1, 0]) 2 (boxOf [999999936, c.natAbs]) t.1 t.2
def okB (c : Int) (t : Cert) : Bool := certOK (relsOf [c + 1, -bigP] [-1, 0] [-c, bigP]) 2 (boxOf [999999936, c.natAbs]) t.1 t.2
def ctAm81 : Cert := ([[-152454313, 5346945722192931, -1215813313551409966, -310355225, 1222972934, -1247152217, -253669926, 277830883, 45861617, -118370634, 71953951], [-3144059806, 10828595214901609, 247879942113276207, -220705525, 448912517, 692966405, 409281547, 109434534, -206612627, 36479263, 105196525], [-2094160215, -22300885054713572, 3261265615890129242, 267617787, 400788446, 588517526, -428543102, 228339619, -143998979, -114497409, -209445434], [4901335, -12037295121691401, 1601099157359972461, 640556572, -551738577, 2768441, -449445759, -53619279, -226558652, -252915816, -62398783], [-80922945, -32668587558160931, 224217755798685710, 55668149, 374665114, 793180781, -1112519034, 163908551, -185545773, -4193292, -497880171], [-523250367, 35396606107826768, -1639729245348147284, -151343230, -125672860, 192994094, 392046812, 24349791, 232303950, -110988369, 275025694], [1698635545, -17416446697500781, 94077294818587177, -486734009, -422374333, 298864324, -80166483, 78381466, -179821167, -109117987, -160077852], [379962847, 17297959813016702, -88745663514158463, -591849624, 117963787, 102886716, -437198747, -51366163, 87272152, 75419211, 321631260], [-249341544, -19306676115990578, -366146853215371155, 212393887, 555037487, 103531900, 930279553, -80162458, -97586951, -136457964, 110067292], [1468175114, 12702669168822745, -883558871291003740, 499482329, -648508148, -159537826, -37909836, 76018239, 86823247, 81789992, 205393614], [-144494533, 18901861584742547, 1322551257435897110, 264382567, 712080114, 444216638, -213313874, 101448230, -106858127, -50028695, -114915922]], [-331875837, -2876788116, -428086149, -1482075624, -533147307, -1166403470, 3004037650, 1353181871, 1922161301, 2172484592, 3588817824])
theorem ok_ctAm81 : okA (-81) ctAm81 = true := by decide +kernel
def ctAm79 : Cert := ([[-910365563, 6284528624089593, -1615147918993842762, -55190273, 77967826, 132061608, -918182450, -161599434, -11279719, -320240577, 967912], [1977883430, -24001562711218026, -744874337437321128, -155676904, 540645320, -159977876, -105222472, -340011544, -88452440, -153663778, -66821428], [-1482706309, 5250540925108997, 312566687847115645, -72305979, 268719327, -52207339, 753591761, 64490413, -378661565, -3299454, 64433533], [-1511108214, -17713002576431573, 839448053758771070, -800258451, 744933738, 180343165, 6583734, -97095750, -185532965, -125396971, -104722651], [1013979775, -8960741975925171, -1074416404055155088, 318053694, 486311632, 226357319, 367954480, -60690309, 570354, -127569896, -338779201], [-620458552, -17144165697557773, -1208064432734008306, -1223284472, -505390182, -306916689, -103112058, -161956254, 20103736, 11680773, -54196377], [-1069116810, 5330259901251895, 163876194374393960, -328865403, -60729224, -1595675961, -912231160, 101861260, -66249597, 78158259, 43668031], [1002444624, -1741574184563836, -1049635198366797162, 772450644, 389252978, 1058685854, -22777298, -93331486, 177520844, 242228646, -55095538], [-903297501, 700155854425634, 1053641327441169280, -154268260, -1167327616, -870283332, -336393856, -85178287, 39082436, 171402643, -95616356], [697335174, -20377154682368421, -552731242329361470, 159523930, -991540650, 519244304, -762977654, -32508399, -36810, 218329500, 9250448], [-700085706, 24608844470910504, 419633459576783925, -1100927485, 46416071, 1107390, -137188759, -59900564, -121005259, -65297900, -3597778]], [-3163006542, 3263834393, -1883463621, -3099547124, 1499721646, -1864736915, 339156920, -2554669849, -2687769231, 2679949590, 3450221765])
theorem ok_ctAm79 : okA (-79) ctAm79 = true := by decide +kernel
def ctAm77 : Cert := ([[1922879727, -576413216733769, 1040814353252805027, -449912148, -683482239, 167403744, -498098225, -356892860, -34434252, -205939221, 127242208], [-555936842, 26811717032889470, -4047462648464533060, -198989524, -235759340, -355026837, 754096428, 117318995, 144863412, 107781297, -128133117], [994912833, -19652191471907860, 1657338249978142012, -952483537, 47595412, 2934049, -1089832276, -95354434, 28946921, 156199530, -37459223], [1373086791, -8813854441132079, 2810453373346380504, 329264930, -2395320, 751870657, -685003976, 6156243, -127138130, 47272756, -239604343], [-1865241631, 28746587178533273, -1596093877093216828, -804653555, 424483180, -661859318, 378600532, 11871798, -109942981, 82267103, -48897062], [2196522163, -5426242623184112, 1501416458076386133, -307901674, -265234649, 14922120, 299840009, -140588133, 76375514, 170018731, -110787640], [771962797, 12895593204984781, -1498501469080730740, 212586839, -410497788, -557014506, -183340996, -113003702, -51645951, 227842151, 56908614], [99058255, -29743854691750723, -463402892966174162, 414025280, 989503226, 229557930, 5147942, -118620784, 167969728, -29046115, -269446], [153246518, -7471911083452405, -1065118948568474744, -191981469, -283053352, -696323652, 217528488, 254756595, -127768619, -95559890, -145343332], [-2068549835, 5265578417823692, 621902450679925616, 315062648, -1012599344, 255953526, 231590704, -152635825, 68001608, -4316965, 29118118], [600440122, -8704295037418668, -1129270342558455924, -1035992778, 73488644, 439974978, 168895548, -101310296, -129356614, 62806844, 73783250]], [1413128441, 870435101, -1278436610, -106384419, -2291558455, 2092649865, 606490591, -1301188098, -457251616, -4117882859, -44546432])
theorem ok_ctAm77 : okA (-77) ctAm77 = true := by decide +kernel
def ctAm75 : Cert := ([[-1028270118, -14896889147378201, -1970505849885861692, -741651657, 583963244, -989342574, 328749908, 111534239, -26936543, 110668406, 40136354], [-1111110775, 33184586479223735, 1635073118790514315, 114965494, 359802233, 203651634, -573332649, -234705234, -198324230, 165981013, -24905406], [-1294049612, -14112503217458626, -1705634354796343293, 575864860, -850560607, -316273486, -1176284241, -3806484, 208005956, -34683894, 44236738], [-674366215, 32074073420581339, 1214685202858571602, 299515076, -610764410, -205095004, -929856934, 204103252, 62165724, 55070047, 201410500], [-655036182, 398641871746331, 1120532909611732163, 734831460, 69088737, 338752532, -434361489, 197060037, -9380548, 232739856, 170292148], [-1229447735, -26429861880719185, -251308704704999645, 212471025, -880476159, -101674769, 216001359, -136941525, -107823881, -106619574, 95315879], [-476787466, -17395503923404276, -466940952659477863, -660729772, -878679789, 567161382, -5186083, -144491032, 119222732, 45772468, -63916074], [-1320840608, -3076535865454748, 300635725077427421, 263425768, 142781439, 688886248, -597546831, 78203516, -71975080, -146097632, 155594536], [1688598026, -5529694460810223, -436182739453814694, 104946558, -260151074, -645772401, -350345598, 157892678, -173555790, -34257945, -92770489], [-2281271701, -7986361255453354, 1721523043177709969, -156862116, -349703749, -228120979, -401194571, -16442594, 96842756, 119254228, -121274475], [182789461, -28994583852667422, 1465038786928857634, 16215502, -437499786, -335697712, -702108054, -37287009, 24878562, 53486753, 100059984]], [-1507957875, -287270108, -407218131, -83227338, -98801166, -2129778983, 810464601, -1994044366, 1067901310, -3813638055, 3064261230])
theorem ok_ctAm75 : okA (-75) ctAm75 = true := by decide +kernel
def ctAm73 : Cert := ([[112359355, 10395373064554553, 1074059507232755971, -658501451, -503184223, 838949327, -181192529, -28208415, 160194771, -84264662, -344219769], [-568795490, 12586962231783316, 2392166559537480502, -763541296, 602181202, -374787838, 1008021838, -65047524, -156316752, 157171440, 273007250], [622484296, 12745112545276417, 2481359119780560547, -53779417, -512882047, 280732784, -294803249, -141101985, -231308367, -140036880, 144956400], [1553922318, -13630284077204334, -1517984256763056603, 869986542, -940751337, 1442609232, 228310553, 165646204, -283222078, -116696530, 28686032], [-90998029, -7529939767603557, -1107679454726396513, -147753971, -373729963, 795076468, -555066309, 200457236, -163178181, 164289503, 138480148], [-1245315917, 41640567809258927, -412128789757616674, -447401271, 27494282, -555374362, -483753578, -157592990, 27113183, -27169663, 34600086], [65352961, -9996763852268989, -396236767963648674, 765023285, -451530230, 212287098, 135307030, 204028112, 387090771, -99097917, -50645558], [125077139, -31912902498245956, -1082439880621352371, -574771313, -80887857, 385118607, -493013535, 6946414, -200402295, -226790678, 74466631], [237327997, -15251842404690496, -1048291685963913887, -175911521, -1252547669, 112349398, -1738043, 45466067, 28619513, -43330669, -49442810], [-769286417, -7031097771952869, -328260700831226725, 463612984, 283666473, 414077942, 273270695, -195369374, -106853752, 87479469, 66880550], [-1421174725, 3323635372321993, 1274038930330184579, -48281879, 123758625, -626340323, 145386799, 49528463, -57880641, -2901400, -68622139]], [-1285146896, -1050911175, 1018717253, 97177778, -2196266426, -3281956638, -3631362333, -2464501703, -294674432, -5352701439, -6627661445])
theorem ok_ctAm73 : okA (-73) ctAm73 = true := by decide +kernel
def ctAm71 : Cert := ([[2045904905, -6236158136924675, 547705139184831729, -608807247, -589996325, 239443512, -297316715, 221146486, -103651017, 340019139, -67036680], [-305905275, -2388817537190219, 1566876366650655487, -320960332, 150308981, -1370348026, -68386021, -159940888, -120676244, -283197075, -109661514], [1121819826, -2871293900740263, -849582818429681475, -211333544, 301538975, -958909016, -811046895, -211353317, 184763752, -191092092, 93700328], [-2309916580, -1718823812864729, 842700279702104553, 47060279, -448472701, -954338431, 157704301, -124422140, -19644127, 181896475, -75017143], [360479285, -9146585085269122, 54783788839539072, 1238249934, -132743040, -90644522, 552019840, 87638457, 100956642, 142903319, -198191354], [-770391788, 954926889182443, 1691592866347908133, -981924906, 526524439, 467528705, -691469287, 30743456, 72301338, 166166203, -5017399], [482915700, 2439464406316939, -1442385125775259898, 212864476, -478470078, 300836282, -29128098, -209157151, 272921476, -110660708, -140638454], [-911544834, -3051506961263424, -1002261431199680972, -369310382, 368627260, -862559960, 449362052, 74782854, 6157310, -219506362, -8132504], [1290828480, -24290141084583845, -218929893943593842, -418591311, 860248346, 284298813, 638082310, 21778200, -44807625, 44012707, 125747685], [-369041960, -28164396191301028, 1234659749008916320, -54487456, -431134432, 212402896, 266588384, 200355044, -30441312, 80235264, 120091984], [-652092818, 16123222109939692, 1215475580971459054, -28281881, -123388870, -622069594, 525259750, 50002800, 121494001, 43925532, 83595862]], [2795308519, 1870213364, 1171678080, -2732205543, 578668525, -1789860106, 557545259, -2332166747, 1890367027, -1247158241, 1853522265])
theorem ok_ctAm71 : okA (-71) ctAm71 = true := by decide +kernel
def ctAm69 : Cert := ([[2743396071, 12867814124043607, 1149254222775708368, 252394394, 43646704, -256561559, -649331696, 146111589, -220083466, 132652204, 269825137], [876404830, -1672771475635810, -720512333637214534, -242550273, 407936766, -726181759, -550749598, 25464593, -369455719, 165404047, -198467255], [-1093592199, -14569836461166511, 505675393017200168, 116592922, -554336328, 257802220, -161459768, -9072144, 265597302, -337052207, -164306868], [1313317403, 48573515888820966, 420323850607519828, -8604901, 503973276, -149999005, -512889052, 58185576, -117119011, 80531374, -105677893], [-2392386479, -36854204958411629, 1012380762448065767, -592187284, 329736557, 141560101, 5906339, 121633951, 216603508, 1748450, -113679859], [-1056456337, 37488575119314382, 700626271902904041, 556286218, -9465725, -109934107, -560866963, -214343418, -121996538, -42993996, 34306253], [-734089687, -2655692380665398, 1246446107617894060, -852952285, 1084376932, -312740253, 1147982812, 44711714, 26616597, -106424692, -74883141], [-1790538594, 9214811172733878, 1213561931325198137, -951851888, 45194227, 451016660, 154349821, -77762684, -143297040, -94880358, -227973772], [699474212, -13111114151305942, -71250148259378866, 474954727, -809460390, 11213421, -244699962, -169797241, 251679217, 66284113, -26209387], [71690305, 24129128040945719, -342940668409254089, 597275874, -971552035, -318004782, 753727795, 77364976, 33478382, -71624681, 142448098], [759508272, 2164377026167972, 1136629896157635636, 856727204, 553846844, 552161680, -298934652, 7512268, -73075716, -9979472, -226932208]], [1888485112, -192115855, 1522448753, 902462493, -4283433488, -3354294090, 1739750223, 249751297, 2522812771, -1806900697, 278988791])
theorem ok_ctAm69 : okA (-69) ctAm69 = true := by decide +kernel
def ctAm67 : Cert := ([[-1030710182, -2507799805367659, 985286314636982806, -477616153, 320313842, -42024412, -385767506, -89393073, -28883471, -357671756, 59211332], [697994306, -34589519863034668, -1386217404824977854, 516407584, -358990378, 467557835, -879458550, -71458807, -127421472, 48151581, -41996189], [-2267381168, 2489419549263480, 1084054334034392242, -739412909, -399487834, -749222649, -1061418694, 143801831, 40658277, 283359199, -41832833], [-2356728668, -6144609023434000, 786290948580039278, -848873738, -382375494, -162677901, -477012378, 7950175, -21050118, 83097935, -295478965], [1309334419, -10322260096709247, 232493290589279700, -232682117, -7636452, 336473661, 1213358756, 111146741, 137086077, -246248698, 219406821], [-324268791, -14649213477225706, 601520205923091450, -1004118863, 495982782, 1128759323, -712635230, 34633002, -15412425, 250978464, 124674355], [-386846189, 7660457558640012, -1389645447081865089, -527913379, -537699083, -360399226, -799893861, 44116821, 238096235, 129628065, -182292682], [1447602025, 132199074914549, 188719594410846114, -511272123, 493860086, 655977701, -162616854, 154877047, -238903101, -103486148, 16757709], [-276418763, 1781411808080700, -1445958973991643066, -158683835, 582401538, -812474344, 511211678, 23421097, 116776643, 46198181, -149220648], [577503279, -1455703613218492, 869136976689749345, 532985327, 676367275, 151053227, 397218501, 165157014, 85240617, -242456550, -36844221], [896421182, -24496242172998503, 1103095104618355379, -404275610, 194463537, -1542404, -576916705, -155920321, -58897654, 152402152, -64168996]], [-1613658852, -1467460350, -731764906, -2591463109, 847548670, -2444655313, 3328412614, 3154043371, -1524003713, 149495039, 4855954045])
theorem ok_ctAm67 : okA (-67) ctAm67 = true := by decide +kernel
def ctAm65 : Cert := ([[-104138782, -45613161842791370, 2437283918277728, 690505178, -167127008, 492454852, -789638688, 70924112, 216197814, 55735782, -180697884], [-1971534251, -23955419176727492, 2766510769599363269, 130423934, 99977975, 137497586, -220029127, -5424917, -132553038, -156340505, -80516862], [1133557672, 27500270377895936, 2897448605699722234, 689516416, -95768386, -90258735, 480441506, -11727295, -224519040, 8099393, -111060455], [-419546539, 1561953721308516, 621208506483142154, -1450824957, 22589294, 541645228, -595583758, 56496717, -57448907, 67364849, -13953012], [-1558328805, -1329995848685774, 1309369921735298372, -388987879, 662541292, -99562543, -369473068, -141486638, -20582897, 232817956, 3042073], [646706804, 18964957853855515, 662542121748689409, 831153635, -387432821, 1160054275, 154199525, -247081980, 1971797, 83991631, 79242331], [1510952989, 16806933358912950, -779105940639869818, 673912382, -17058622, 447104947, -45949474, -231497950, -125312270, -174772424, -119375989], [-1991489958, -11002677353533382, -898042051472961877, -269869433, 950042329, 254591488, -391358473, 222030112, 23494737, 74098170, -9678336], [131884408, -16464991080581465, -175228526874919889, -668823201, 401413509, -386283543, 437173003, 126883986, -172788423, 116297513, 50838001], [1056133879, 3560339447896101, 1619960090963032768, -13721423, 571795008, -119435890, 550489536, -41748368, 25702199, -255702171, -28959618], [1700711888, 11203577284080534, 639269676631779460, -80815385, 117677996, -603077362, -333370860, 27944280, -135181583, -122285746, 155955198]], [3221343125, -3386989461, 983549441, 1466566112, -248204294, 781741606, 762606033, -1267093123, 2541757376, 2282183566, 2523361943])
theorem ok_ctAm65 : okA (-65) ctAm65 = true := by decide +kernel
def ctAm63 : Cert := ([[543714749, 1517313611112975, 146598746583009249, -261206272, 148283179, -706421957, 452171589, 156739295, -287717120, 190145374, -177509037], [-1612617767, 8706130519259836, 1886366049333264450, 924883307, 596775894, -750519476, 427921674, -88859695, -148303347, -97523635, 120782508], [-1374650126, -10896324133572507, 84309956256025336, -629797181, 91681960, -1382696400, 359380952, 92038711, -63567755, -159926932, -139595856], [-2042212927, -30167786917210574, 721309653714585131, -187411569, 72704345, -947359590, -479609481, -160851763, -213248375, 95577887, 91754730], [-1168570150, -52521931980457301, 317876546223743663, 111827251, -509805307, -85834229, 114928523, -78930504, -74220667, 120705683, -42366301], [1808509540, -28306195937192014, -1123251021248354973, -171325624, 103339201, 44655320, -121974129, -260462450, 141127160, 65605728, 85785496], [343247984, 22843090394389454, -1759746341468216085, -431539960, 96441241, 833930264, 743440183, -68723082, 108016184, 213262884, 83449560], [-847168957, -14441425626270135, -186230642116987622, 929893966, -590346978, -469932599, -407101886, 97108253, -137154206, 50863734, 141700817], [4643827, 18708157409330207, 414597996199439386, 129749803, 8495646, 386972158, -89484990, 219772960, 258690637, 217358255, -37765010], [593695088, -23074376406272950, 165488437114289498, -658316549, 485277662, -171211856, -150470782, 54270218, -37672195, -246922508, 163521840], [-271088535, -22061453532644528, -1178340151237976808, 437366828, 390974472, -56093159, -907194760, -4490454, -73449036, -178883718, -53355103]], [2907698496, -513134808, -1751870825, -2439483150, -1853767513, 3983619198, -3155212389, 823245193, -886778203, 883957193, -1981773568])
theorem ok_ctAm63 : okA (-63) ctAm63 = true := by decide +kernel
def ctAm61 : Cert := ([[2457613517, -14423736200891660, 1349996138191644738, -732196368, -359805994, -747090281, -216573686, 84318472, 23541648, 35884348, 238416015], [236106945, -49625942164354308, 54885460211031910, -699548420, -624108446, -359178541, 44955710, -7661584, -198252188, 362666156, 925611], [-574464339, 34866887446586904, -207909847499937092, -200523986, 286200852, -287983065, -945451476, 10338852, -43590782, 146204092, -75520865], [1320823372, -49131872290743662, 2728411487841099416, -578278439, 25418888, -225856147, -608049672, 57280055, 32009295, 77106921, -83638635], [-1574576943, 25958269090529151, 843676380952862995, 839031125, -464159407, -254913540, 243205887, -110013942, -6923981, 103029497, 79388892], [-199312242, 3983564216203129, 1779849022872754595, -832746687, 464778113, -137279776, 182685647, 150683945, -22851801, -165549390, -72866336], [-763492173, 27439682911572326, -734219590728912021, 693761363, -184454375, 1096942560, 265189303, 153354837, 85740645, -92131045, 165710560], [-498780432, -1731640734735078, -59838632051440458, 128275035, -1014980910, -141996455, -362559282, 140790399, -162071907, -163448263, 214960097], [-995836413, 8184411120543985, -973805089413705301, 406422626, 142221273, -25091308, 664798967, 103264490, 214389614, -49483925, -189310284], [-523059211, 10272715377168251, -716838807198064118, -316051275, -820417682, 626244758, -141680398, -7234676, 183632083, -231146953, 129116614], [-868455903, -4050291738518157, -121003410317693382, -224237396, 497944958, -172778692, -104622110, -12805578, 60652852, -191794599, 252006940]], [3521232413, -2958713663, -1732109934, -1111215245, -2630915130, -1727403983, -156322827, -742257135, -1919462196, -1208622416, -3965745551])
theorem ok_ctAm61 : okA (-61) ctAm61 = true := by decide +kernel
def ctAm59 : Cert := ([[449235952, 30455298331183322, -2181677122002798641, 559212245, 106067301, -53251713, 1071247659, 93834889, -65042509, -159875581, 137689271], [356865371, -36433348562875520, 1081547106604248293, -44049207, -732899241, 1069137019, 613851097, -134449186, 54009055, 105544542, -209893229], [879432997, 6974495546157145, -465150393171210180, -735937905, -191762284, -823238147, 930159020, 317462567, -51132535, -17387376, 19104677], [-2942965432, 1075983983615040, 156352287773708918, 1168625804, 31938066, -118481129, -145877618, -7600617, -32946092, 126355031, 85632271], [1536254474, 12002772880131677, -813178412461961241, -1050114356, -763835795, -136545595, 308053667, -228176392, -29058028, 60579493, -176613203], [-1900480222, -8528337350882245, -539988492534497940, 562780820, 641071524, -332049067, 245470620, 32422358, -119139956, -213352127, 113832893], [-72656138, -14139588742307532, 303408597403596114, 916821097, 230024070, 505204296, 133511258, 81885602, -201195969, 41754646, -217573752], [-481243269, -9392227235454910, -1081913842872737186, -115415861, -671549174, 849188808, -189200362, 168115293, -19634771, 23715263, -134460408], [496638027, -1797238372504121, -845418848319491619, -877904503, -216659201, 408895464, 873560497, 46905782, -151451105, 70150509, 156093736], [1168914718, -29433017333915317, -1038532268330658056, 434062733, -149686104, -424473875, 395047896, 193158970, -121543749, 2208949, 184412181], [-575806793, -8703177732777242, -2009211173028428131, 368681048, 839028543, -442237166, 24447345, 147354855, 108151656, 32081197, 125553954]], [1437443444, -671990415, -1570591354, -3277458039, -627663504, -3624172492, 1420546361, -1899524536, -771932346, 2719144222, -429260395])
theorem ok_ctAm59 : okA (-59) ctAm59 = true := by decide +kernel
def ctAm57 : Cert := ([[-844358671, -13875237369586627, 128923089443029115, 1018547729, -875853111, 85882931, 1235900167, -194354201, 72773847, 179918964, 177376267], [-443996886, -31276151012860396, -1152265590642869856, -883073146, 383912416, 143419233, -598627296, 43085247, 168664810, -234303725, -18100439], [2634308050, -14462543026869823, 1697489007561004227, -37613431, 440634849, 63177249, -479571089, -32547502, 207154975, -40177245, 85413865], [-2279457511, -5918560671372577, 1001650017265256575, -91890799, -1952824075, -12187946, 533474971, -56343720, 58187607, -15163993, -56658426], [2024901680, 7698381487790085, -1596587426585018802, -374217466, 951346266, -73206177, -397306426, -47269798, 37442922, 225622319, -130823017], [735287191, -12733363811056137, 1204786712573956597, -158395848, 692860935, 303073460, 750761769, -333045076, -165538680, 205989267, -21453484], [-786420021, 2753030589143824, -435058103373946701, 438428502, 1089587505, 641271862, 299962655, -139412207, -79878246, -145805023, -58914202], [1528737261, -18420546171335874, 1186099928111009884, -249636356, 927416820, 22086275, 1117279820, 127801386, 121214052, 55155272, 21259483], [3079292041, 10472688977479064, -746050653233771440, -260519380, -348737680, 125947456, 564917136, -100136127, -135612492, 14091865, -47452096], [-482252245, -17217733886086659, 603045523537526042, 730968865, 147545374, -569320569, 336873026, 133793141, 167254599, -259142718, 8280319], [417631753, -24389329730232612, 457439198743352702, 142654006, 294140778, -132537457, -782457930, 265074532, 35429306, 73480704, -5470393]], [175239498, -372116151, 2033956999, -317530258, 314980631, -517939009, 43910634, -258027133, 3983402520, 495182699, 1178993017])
theorem ok_ctAm57 : okA (-57) ctAm57 = true := by decide +kernel
def ctAm55 : Cert := ([[-638313076, 15986016275033900, -664100911084780673, -692559237, 890981877, -535399460, 1440806299, 270701908, -142379139, 6976832, 3663804], [751417430, 23637675159985215, -1309960939594127358, -504019617, -500127466, 340050436, -663527478, -253467711, -15081159, 98301296, 341370148], [524683445, -18201493594626978, -2821303723864540998, -572239813, 18726142, -804610785, -654148510, 55989834, 161357757, 153703304, 46709079], [1040291282, -19740965559248864, 21545553754603100, -870246713, -92177420, -584235011, -53593012, -172647369, 54944273, 307643991, 115218853], [-733994985, 15025008777594471, 861633686324714121, 959897990, -669089693, 242307750, 406880141, 70774508, 144764138, 65655107, -78169002], [-1093650997, -8453830134328560, -247941060889999443, -834280436, -490560785, -452564910, -57824063, 125254189, 104800468, -268114371, 13463650], [195830610, 30321718411986731, 1355446433595869738, -307561418, 140096718, -7481910, 155182482, 105911807, 137177530, -203284646, -102808678], [-695449099, 645709067601365, -68667921439878922, 110093311, 1098073490, 447726342, -564691442, -71374392, 105165721, 124091757, 168490934], [1178347593, -14430282060681280, -104962495250192455, 7889756, -242112141, -733480606, 448519037, -152231221, 143317508, -119001461, -50424334], [-823277836, 3609138463106648, -1408950908722822162, -371788469, 272904762, 263848176, 221167078, 18190396, -110687955, -116467692, -237208464], [-827445257, 12682035844776941, 596077613933206625, 503137596, 99205291, -482006114, 26963397, -66516454, -133121244, -105309865, -217614578]], [-813519244, -562880295, 1608466422, -2187695302, -4258127421, -5873541915, 3502708102, -4292225088, 1570740986, -2016251479, -3687859826])
theorem ok_ctAm55 : okA (-55) ctAm55 = true := by decide +kernel
def ctAm53 : Cert := ([[192414286, -19002713156681565, -1064668027941587424, -71242061, 179053408, -741625501, 991431328, -41806278, -329932283, 84933773, 110047931], [-1486906866, 35275446637604560, -268112408646317175, -273537848, 863525731, 438990209, 553915533, 23220903, -137163656, 226145911, -56531383], [963507807, 46908966855878788, -2588498781914358699, -152654555, 112597543, -228968955, -713040119, 58590056, -201797149, -47894996, 147201517], [-929741699, -16760811446141675, 249910757770755877, -624421663, 308199703, 1339483201, 243905305, -120666835, 199716487, 259695634, -94938359], [-1578761691, -3605014961351108, 1276967232582100959, -200750356, -66073067, 500458101, 661774203, -230288282, -153025292, -15469470, 69386717], [355787915, -12517196914567247, -2254147910577903229, 880355609, 326046241, -471774659, -12655825, 32477035, -188198641, -280541012, -171647515], [-1076713304, -33242207143777214, -801392449814597018, 641359683, -291721886, 242995487, -123046082, 221275445, -88708107, -82980201, -117797545], [-1271703260, -26471435028304411, -412804586577545141, 585361687, 246929593, -883427417, -152980457, -52045558, -29654975, -84345409, 31976991], [-1237402273, 25429320819825355, -900077332502396722, -315787396, -437911590, -84070175, 710873670, 39823809, 101118692, 127586492, 89130153], [827326316, 5675984450111591, 503824023293163704, 710485038, -90780696, 433639822, -170466152, -125002841, -42008958, 190734334, -101023618], [1032192146, -10219926143829458, 617197573335314605, 445283021, 598779375, 255291500, -20866623, -22515688, 122540155, 6481958, 124941516]], [2298064041, -1875190740, -613303932, -264937306, -2181264306, 1211795818, -1931801527, -4487709602, -1240116228, 965199515, 1517161162])
theorem ok_ctAm53 : okA (-53) ctAm53 = true := by decide +kernel
def ctAm51 : Cert := ([[-1609766112, -2738987325674914, -708359730539783544, 1513459525, -497997864, -683119902, 1031705512, 70669112, -137966397, -136825226, -3296398], [-48933416, -71585190977736376, -1404325221855318792, 133101945, 400075432, -374956471, 732226008, -157879855, -5101649, 215976857, 12684113], [1018889140, -26883635157226637, 689120226356055446, 133214068, -1190088590, 600878407, -360244946, 160271290, -28166228, 217092573, 106498239], [-832644387, -24116873796726054, -1500848787544248189, -726637440, 479928097, -651691454, 130410031, -175483279, -165908608, -1413141, -312556078], [984748378, -11351418898376128, 231135876423413327, 61057228, 921865445, -113488335, 752071083, -76626125, -48281068, 295347571, -74626951], [373093654, 26302085100775183, 344136741060838160, -654443949, -747525712, -219193040, -325587632, 129439321, 272781157, 50898904, 160304816], [-746989620, -6859556054066837, 393767224274899799, -407557515, 407283773, 471884654, -138286637, 166999305, 116899091, 237474980, 101681502], [1404614961, -1832513198368789, -447756098406675077, -462552098, 326703561, 248756837, 645822471, 214966893, 115506770, -2037624, 145526093], [960200474, 23337131350906303, -1015592804996950293, 33724582, -636126823, 766565081, 83097911, 114808126, 139500234, 45742189, 2054241], [-511094781, -8366531830483756, 1189892006842014560, -182776774, 59694368, 223415256, 1016241376, -115340913, -104613034, 79220131, 59026584], [-833246988, 2443500811237097, -469801029328772646, -487594134, 323719518, -208749972, 110831106, -154178203, -180261978, 89957726, 140742348]], [-1880001383, -311487407, 1949802038, -1204909825, 3405667289, -170978496, -5890203448, 2960286276, -619424096, -2225188611, -29783894])
theorem ok_ctAm51 : okA (-51) ctAm51 = true := by decide +kernel
def ctAm49 : Cert := ([[-69827594, -22878260578077116, 95966658248217868, -323225735, 215158148, -602994753, -2533444, 237362313, -165914193, 110481677, -295767817], [-164136681, 21171258570943848, 174004083944775791, -15662781, 161481797, 957378009, -395270069, 19389504, -299787787, -177617880, -36322463], [400897243, -4112787417346618, -979946177898134665, -252266863, -278492771, -778421203, -503605645, 89419866, -239600553, -298315392, 61903701], [1186049551, -1914251848882597, 1127543132110891387, -248116644, 193875401, 355512857, 1002800135, -96552251, 303106820, -53391792, 33839521], [-869168279, -65413378569280100, 813557405793220686, 643416329, -196926886, -52810565, 700987334, 44647536, -18550113, -78685748, 50227923], [-2396413991, -17365827680853617, 2806839974557563598, 687195589, -55427622, 677661965, 139473990, 270583567, 147896899, -63194354, -15248587], [576009406, -27664048450965015, 214893542333370520, -789607429, 522846856, -142098618, -18243592, -160555925, -50255363, 38911844, 207160822], [-2305216204, -6021920574696446, 1627264999787433311, 524007407, -165254507, 12287919, 806726395, -37743015, 101087529, -170997893, -27861913], [-577833143, -11211897978038066, -1425004658191224544, -483370553, 936488032, 534441613, 309350816, 76431744, 75650833, -39808466, 24256693], [204844049, -16976883297405916, -2045751011760860421, -830202833, -38693303, -140652543, -499752057, -38680826, -12005655, -66664598, -110267191], [-1277288239, -4538131355974555, 1200293516686366095, -254330694, -574006107, 47800780, 617811435, 76452392, 64856790, 114898269, 107641132]], [572720083, 758544372, 1291704595, 4505818305, 1650403466, -309246845, -1110242971, -4976941236, -1731551271, -1567677585, -1510886457])
theorem ok_ctAm49 : okA (-49) ctAm49 = true := by decide +kernel
def ctAm47 : Cert := ([[-891596276, -21648357943536204, -649152544547370586, -246186133, -974533342, -176402191, -1063484546, -61019079, -120349683, -24604883, 133329209], [-317584694, 51166650895988326, -338391806254987965, 1339407883, 528753505, -144479440, 429192687, 42633536, 154127981, -58823418, 202500272], [553053622, -41197580258809821, 1115149721016480559, -714774363, 695857797, -485539259, -681185781, 96033030, 248660579, 56942297, 166050861], [447066028, -73868729195566392, 617038720340489116, -684235645, 909010356, -548023515, -188899700, -68792511, 145590453, -143508855, -166921203], [-1068823788, 29943696483185035, -15972692133361261, -104098321, -330433839, -569835999, 224543103, 149058536, -187118807, -241369693, 78719977], [1045227222, 41138229925641169, 1599215809586573003, 727617715, -22368199, -346395612, -458967913, 1148715, 30527493, 77100684, -85460924], [833363752, -3309190617647929, 470346292750202004, 850561193, 398158940, 325167423, 528409700, 95936134, -187022337, -131119811, 74825335], [-786568504, 25420720675621454, 1032293251467279659, 371441241, -313016743, 468973021, -92049289, -276203173, 85220815, 74961801, -22012283], [316848861, -51995277257117543, 1324943513815066030, -503008301, -645479046, -716713032, -152703322, 114213982, 130216421, -5191417, -138208392], [-659191168, 16242402340054435, -1542755393312093905, 100852914, 309896325, 1105867888, -211493877, 216365619, -3173474, 19813766, 41085936], [1587592658, -34858502196467266, -13373961503306179, -660514822, -352865505, 17287326, -225854575, -149660034, 120206742, -135141604, -1524722]], [-1283007403, -743315641, -14983330, -2415215133, -2157936139, 2991226683, 1060947872, -4437334943, -1656879504, -1263402440, 5063999996])
theorem ok_ctAm47 : okA (-47) ctAm47 = true := by decide +kernel
def ctAm45 : Cert := ([[3507294239, -33673913690509869, 756945758023586208, -837894209, 770478560, -171646653, 1130996768, 50418275, 288169433, -22810394, 89213339], [-162520848, 34711373472639871, -244218362887962172, 298576633, -70331028, -622314790, -1003618220, -57885929, -14462417, -118951930, -144777942], [185792253, -39492797203203206, 1533911816975167828, -410835311, 414427292, 1091871301, -261604316, 3552680, 129567831, -131509822, -39969747], [973686875, -17017785291082803, 1051065189000995802, 567204258, 650946398, 637997637, -1029509118, 39517919, 42377262, -107860996, 129502253], [1576007108, 4850341733579087, 860307558739130199, -114656141, 940405821, -324213729, 861855187, 136498888, -29644219, 59717255, -215058345], [-2434256848, -50882127699824782, 531465115926817505, 148252149, -526557141, -40932923, -126605755, 78652979, 51965331, -65404475, 59948973], [2288378716, 9700570839594980, -492071177205433310, 215297605, 481449590, -431687552, 606011498, -12413368, 318227907, 155137644, -107406208], [779825207, -18604687732214636, -306694645909749875, -594919375, 897399183, -415947346, -387512287, 124052161, 241261495, 154960533, -1241698], [-1489178963, 7373457011204237, 2049499588477794702, -39523695, -1035923430, -467733306, -144452090, -21534630, -43063209, 121450039, -31979658], [-2833641109, 33768782934546528, 716984179531433271, 153702262, 227867869, 37316640, 119334707, 60619035, -90527622, -79984773, 39272736], [238703072, 20848027633261393, 71258216489678655, 56786179, -246094027, 531204196, -195755941, 170301655, 113796149, -83271752, 171845252]], [1100929769, 642028127, -1054544281, 1297419890, 1440793568, -1505621660, -1002381869, -1207346988, 506639107, -3998726941, 1447594681])
theorem ok_ctAm45 : okA (-45) ctAm45 = true := by decide +kernel
def ctAm43 : Cert := ([[-2505972357, 27526656897049583, -857810315250695038, -227093578, 178135702, 567446593, -289120694, -80836865, -185803206, -155856034, 76432137], [-892078363, -21757832720790120, -797548825583262780, 139246559, 872778604, 778229046, 237120084, -62464813, 134123193, -299491349, 119734118], [332944803, -2401510757665156, 1074341611878643374, 659723314, 373178490, 17281616, -43129946, -350478513, 73084958, -153123957, 61751504], [1397884294, -29337213716314557, -443644774071656813, 144494442, 672211409, 1050234702, -278377857, -207060013, 85115814, 97425862, 193739838], [-971669305, -10983079081128218, 1982241759516965891, 164841115, -233071199, 270649030, 546074543, 63986859, -160022435, 143188209, 198633846], [-80304371, 45719534149811552, 2128273459399597210, -587692056, 312145822, -555586631, 536376258, 141985342, -96604584, -95680098, 80320577], [943889963, 36792940122476496, 1159832387308395053, 591874120, 317402735, 165908642, 387922241, 163667933, 32527608, 128693421, -106080462], [-435699243, 1428302553692454, 1399889048988949455, 469444772, 265961829, 193088216, -922360533, -41402501, 106068476, 150991361, 730008], [-954486242, 44458568988851187, 713991713063296665, -722199844, 8287507, 176644927, 356159965, -128313708, 68005508, 84423991, 20760695], [-49654977, -3444780225873692, -1020687369239386649, 731300715, -331875219, 194694413, -280824669, 56931608, 67368973, 34825788, 249680693], [-1406601383, 15099678279230552, -14993478515514203, 449062205, 572136855, -181246118, 21282457, 42781067, -2825333, 137719651, 140365226]], [-495334638, -2482224748, 601840126, 3824186885, -2011645805, 2780419964, 1565281337, -1774299237, -1973131183, 1220914769, -2588060154])
theorem ok_ctAm43 : okA (-43) ctAm43 = true := by decide +kernel
def ctAm41 : Cert := ([[719208925, -30498088151069639, -1038346335196862227, 923421242, 243970223, -465314137, -957797631, -33570213, -84562602, -103682908, 43797791], [-43918255, -32722403558114849, -1849054947258136180, -750806461, 558190340, 103114919, -281276868, 179421977, 27863285, 744552, 102344479], [-308656039, 10415577567044154, -2422169528804652497, -51139440, 579465093, -234243044, -460062453, -48039621, 258928112, -108673003, 128229884], [-1555137974, 8184722718408212, 161748871971399902, -226671406, -501563254, -112849936, -850913130, -130096538, 269303934, -60578886, -111337616], [-1620986020, 40885713371688688, 101984382565249788, 45494870, 510463700, -113269241, 332672876, 142387243, -245305190, -67723749, 20273023], [-751719417, -25958633793159023, -957847643931478441, 23604426, -33183427, 119172338, 127809747, -245807376, 30430534, -12261615, -229928446], [-656633332, 10140972154620496, 2455493863970779660, 619117220, -55423868, 1350570799, 546490556, 206992867, -71043076, 11971891, 99396583], [349296820, -12027279273103525, -899420738730327794, -734375056, -262315366, -1153941039, 64801670, -22868022, 169021968, -234406827, 46272793], [855076477, 5034870608221981, -1353105124182121173, -141767355, 1187509849, -867553117, -141772681, 18550547, -3096893, -187048832, -133817349], [670876393, 20196375333867670, -1006228468885112210, -137872847, 354683322, 723319671, -15417754, -65966910, -199167561, -196950600, -13554577], [320922062, -11079209268824569, 1334615097564652395, -263759288, 619201305, 708372183, -117921865, -31012242, -41446664, -3250587, 169245391]], [-968952141, -1270671960, -992953991, -1723286246, -5772384010, -4026668878, -832883704, -1062105283, 2462252684, 2713600930, -1197502722])
theorem ok_ctAm41 : okA (-41) ctAm41 = true := by decide +kernel
def ctAm39 : Cert := ([[1009263856, 13363180696340021, -189196117527805423, 133363879, 836286267, 841836046, 200258613, -98483669, 197608241, -134968272, -3860226], [1302765133, 31740087682314522, -938391473760001210, -1376847760, 859944706, 359565070, -1159266, -173120763, 115963152, 412868287, -74710530], [-783916838, -52878702404835720, 2531110129429774985, 111235702, -32212893, -507237153, -103807091, -43086007, -168043142, -233461439, 74553111], [785044268, -40762427698783649, -1279760473301051670, -45345777, 585818382, 315467226, -458535598, -202220915, -109278711, 183589980, -192159702], [-733305062, 38316361841567516, -748420041617321986, -352820351, -459587862, -9674996, -831440842, 32314402, 164368615, -216136962, 61886572], [1324990929, -49571302974742428, -1279818050128501844, -466738445, 286621284, -476171264, -411579172, 2085413, 166176709, 14033609, -91827200], [-3001095129, 698136483454140, -233028413290663138, 217213464, -634154678, -153327965, 1133560790, 84226414, -86413400, -103940118, 40534523], [790019410, -46504035025315546, -602361759886506856, 429029564, 1104232072, -55096135, -459725832, -31326775, -88837212, 7934031, 93471041], [-1654210967, 29238572213082776, 513673373087513907, 571364818, -93338959, -698590649, 298422175, 53431632, -67954818, -235950744, -78127681], [-85849325, -17102936410146499, -215405084528516453, 457829787, -270020055, -247508097, 527007143, -137286849, -227839651, -181318452, 112290487], [584879915, 8041287356292923, -858267416785668422, -403205361, 337454846, 628485219, -199085470, 168654857, 7643913, -112229772, -58489413]], [-187753632, -746616269, -1697630374, -2656165061, -3243483058, 1875933414, -5425976979, -2433322029, -257706459, 4156370143, 1826478796])
theorem ok_ctAm39 : okA (-39) ctAm39 = true := by decide +kernel
def ctAm37 : Cert := ([[-847744651, 21251298642785491, -1355031277397693840, 263518458, 119605968, 64443498, 744441392, -115671728, 219675798, -270118189, -293458118], [1377806016, 16451546014654563, -179897239838132059, 384838583, -733562473, 7367406, 540861081, 53707487, 155143841, -202480398, 259222750], [525642971, -1630130414301512, 160095002502313114, 693915946, 22183838, 1010498522, -462197822, -66941603, -30541850, 258323349, 159147562], [710077695, 4250758932104456, 1872709399006174318, 215336285, 302514106, -239040888, 71280742, -3020593, 166547563, 157200983, 230473928], [-914953627, -13170844735903360, 204086346728940625, 610654205, -442724357, -896897669, 207083381, -162269176, -42348853, 150747528, -12828269], [-133851027, -66276053722624333, 1023334752887093543, -628701804, 526839853, 430760846, -276730653, 108700076, 23469708, -9183473, 67412606], [-558688400, 37433668382590493, -649045955109177185, -854709893, -428120491, 159122177, 409508667, -187531656, 37652605, -210539803, -15761463], [-1453129553, 19866479115938447, 1370668966957981869, 622704975, -326191633, -307977542, 335055297, 117427854, -67107127, 36723597, 189262858], [512153902, -22229785592416319, -958399646503240200, -45652512, -542005848, 365559624, -503097640, 13748577, 183041312, 249056178, -102264952], [-184455377, 55177727242699, 168895986964758147, -473732472, 60569889, -431097361, -604312529, 10087743, 83107000, -238511302, 181000359], [-502925512, -9164862713526592, -787076247481540062, -115367306, 872364150, -111431937, 273596010, 16409903, -112325254, 168310767, 190005815]], [-2884299048, 2979205572, -1222163013, 1754556022, -640373122, -1928712696, -1998387777, -6412991871, -2458033010, -2650420876, -1558737339])
theorem ok_ctAm37 : okA (-37) ctAm37 = true := by decide +kernel
def ctAm35 : Cert := ([[-1386696467, -65027577818584653, -741272155927898577, 939726989, 122991493, 590712007, -250446581, -51462733, -138196805, 155878934, -109411265], [2946354608, -23987147458031234, -1032428646989584558, 551738499, 768084358, -466657428, 242283098, 194772898, 141217973, 107072512, 112794572], [473888027, 25076512599974457, -586699000729972744, -497411169, -207541336, 168670043, -521162536, 259784195, -27388679, 63397452, 142712435], [1468521733, 17998592497622262, 835328490248424696, 497584429, 151390888, 422843011, -1077575208, 104901294, 14194971, 65193476, 13366491], [446788518, -59050459254197266, -1893266984309098327, -443679800, 745020355, 273079763, -132607443, -109010169, 33459576, 82022613, -4925781], [1145236480, -25670436226247512, 228578936413257986, -799631490, 230079510, -369082908, 373570762, -73824884, -300751950, 22456500, 89696260], [-527322681, 17530134967137143, -1564126998844287710, 876124910, 657353078, 540730661, 31055210, -132226065, 35505602, 26455126, -93315571], [630444988, -5847499650065855, 862224153116215538, 80774532, 290917222, 593519804, 1003169402, 47428997, 118609948, -45055402, 126191516], [1022841504, -1793125502282240, -656701842098958863, 288098520, -22238757, 169556414, 496006037, -22245170, 184438504, 234030798, -105574866], [-1010896366, -5868306435343693, 275754651687483401, -305670121, 101205219, 407217922, 348496653, 132792251, -9918143, -258627298, -139040622], [571926198, -3226990482402256, 597163012741127453, -440848417, 975242943, -632917890, -259102223, 49557236, 37829305, 143818276, 18221806]], [-2679931769, 1999210527, -2128949585, 4324170344, 1079155386, 3284508481, -543290522, -1137268966, 2540020446, 1012893166, -3301913395])
theorem ok_ctAm35 : okA (-35) ctAm35 = true := by decide +kernel
def ctAm33 : Cert := ([[1922161872, 34217344111304444, -1302811555883876008, -884908378, -82281784, -122127594, 451115960, 139668954, -155040566, 66863766, 85310534], [-1654937, -37490210433318349, 374918202341101501, 1014708859, -714931297, 207413993, -158526703, 115008325, -5742723, 268160040, 44297457], [-282048394, -77559540392605946, 1751228355331730735, 330792451, 746401925, -28458040, 391122955, -544169416, 17025845, 100331678, 125753352], [-1285946537, -39499445591975216, 1388579765483667296, 57131234, 1115269408, 747049915, 541823200, -243713398, -28988690, -76281254, 87804371], [-590128040, -56681593607373402, -1897438825644845072, -406099751, -640024752, -31535917, -169592400, 158201277, -52562097, -77482813, 115047851], [-288822881, -29787870608462773, -841628947045803041, 623626660, -566506987, 390660626, 56140667, -14499946, -34914052, -262615023, 91695138], [-147079122, -71897806130505577, -404262463474783531, -508413417, -263390809, 506972821, 3757961, -288691932, -171567295, -192005973, -42728707], [-25647557, -65192923138085555, 296502253817398944, -79339522, -284092192, 500829221, 832326944, -234242181, 174690098, -22151656, 14793997], [-897130441, -5527783031520362, 38909890795457136, -509313041, -224892208, 644103937, -346692048, -299073926, 74379561, -115295632, 97950665], [-663512590, -39261183464994615, -1504536766395827737, 70246296, 736024685, 137279216, -273360733, -184423159, 4175400, -39697182, -48799120], [1384786719, -1059327735006452, -530578333770559417, -466314195, 406584973, 20619354, -722273149, 87354413, 63716891, -151861767, -2715990]], [3415085925, 1997937108, 1433700162, -1765470968, -3866055824, 2078463190, 961700456, 1664901302, -1452841340, -439145940, 5002931840])
theorem ok_ctAm33 : okA (-33) ctAm33 = true := by decide +kernel
def ctAm31 : Cert := ([[-1512884128, -56975018720463740, -2294082368180765725, -80053100, 350719041, -232885005, 235401999, 259863407, 124567436, -100799949, -19202357], [-901625418, 20892633286629033, 202522619793299802, -28955207, -1517882402, 484715518, -1134949502, -185677411, 107621743, 388922710, 114049646], [2093246536, 26457756013947411, -1191707951280967855, 82422430, 206440699, -701430912, 456076917, 213763243, 98080146, -201194642, 41533312], [-1560021574, 62967360539755704, 1690763942220326607, 582375093, 92699237, 521341633, -444695509, 18862747, -36533549, 32509651, 108762505], [384919037, -57154295001738173, -928384365220770152, 251955795, 159247496, -30133662, 513594872, 73745810, 23478117, -390690427, -59025678], [458230985, 25409269794272248, -397544803419965520, 289059326, 691747984, 532805047, 824172656, -32581440, 179146034, -164128712, -81090385], [1579425793, -34034944422394509, -1195997839059655396, 640807830, -98040268, -100271240, -14965236, 2089292, 104182106, 191865199, 90657080], [-1356454464, 41311108995915537, 1310154754482440134, 140251009, -263632766, 9257967, 1171568158, -79825176, -96058137, -36119159, -18681177], [-53325369, 16343359678264195, 3099202266970620242, 315409996, 100165510, -49844623, 61338714, -50563197, -6936428, 73100982, -137192775], [-1085797349, -4058541234263254, -1835067352426742897, 9677171, -396575067, -502473349, -616281109, -88643672, 49595717, 71018098, -60411501], [-166648874, 24186526193759807, 1640644587078948625, -152718897, -126198213, -543973316, 136265013, -160963679, 54067785, 7417680, 161300252]], [-3357878451, 253975183, 2086694524, -1919072021, 148973985, 68115412, 1061845770, -1592574471, -3934889, -1934631064, -1243031082])
theorem ok_ctAm31 : okA (-31) ctAm31 = true := by decide +kernel
def ctAm29 : Cert := ([[748944791, -27194289090365287, 643698624083968661, -193210250, 530112231, 1304305588, -585705911, -79188490, -48773254, 109066911, -163564460], [1193271784, 4842855942282679, -1933084623361019908, -76733552, 219278804, 667967026, -1117126548, 210462399, -33173776, 5676390, -44892862], [860691012, -50663858125857228, -869018142724163624, 694746246, -469937592, -663913327, 22314040, -344834759, -39728662, 44085421, 59781593], [1419202414, 117784523483905878, -236937175177551001, 331878313, 848011501, 737382895, 622082083, 144961239, -256142081, -211844467, -80858969], [-190584349, -33601515691952987, 662129812180685145, 566855846, -485145773, 13360734, -31918179, -108977056, 148581066, 326982613, 11325390], [425442916, 54158630353641334, -22141541148171284, -67260659, 1395548452, -39814426, 743179804, 79837948, 105502267, -20856622, 38196886], [-63123738, 74197540070475763, -564412428343457132, -269612584, 382721628, -468215932, 57938532, 162783475, -82528792, 6491030, -228030812], [-556571292, -68483031980782598, 1207347514157700550, 189595515, 130671234, -160148639, 467811358, 169790043, 70689405, -10830091, 53746473], [49581931, -27898758468237534, -1372247785478055084, -710067969, -740149604, -56802956, 136318500, 89914229, 96069273, 106373559, -51334124], [-996675836, 19252909668360967, -1758569677916610481, -303373700, 334885605, -94136688, -142464085, -22801575, -40566812, 215231568, -30574832], [629248794, -40758606310111928, 1193787699525637573, -561367355, -354563593, -87357490, -194834375, 72973392, -82693821, 21883416, 117971134]], [871118149, 2415665583, 4004149786, 1060568169, 2089139629, 4031271967, 2115571367, -1861060585, 2753210720, -5005448814, 4156979227])
theorem ok_ctAm29 : okA (-29) ctAm29 = true := by decide +kernel
def ctAm27 : Cert := ([[1158099904, 33788889607424483, 1474117393222066862, 140180683, -1683626886, -25580583, 469073830, 105664672, 12717485, -343559117, 3109217], [2063654065, -42354801615209764, 302229098509811121, 512419349, -69740773, -522442107, 426584661, -7789574, -53265805, 290734742, -105834899], [-174627738, -11103339788381829, 683004937755715326, 522976889, 293026794, 569285850, 462637878, 45955431, 23538351, 3291666, 187289386], [1080234104, 18044055606911358, -4020123835834447622, 84854058, -565047362, 13623812, -350337630, -43557582, -157637658, -110020208, -32176860], [-2897777360, 18193587379252524, 1435168130349524973, 438270611, 1209296303, -98955840, -712047103, 10473484, 12511525, -90026504, -47985728], [1070927163, -42415991035085030, 591409554715169959, -586541116, 160292525, 682474423, -260798877, 139502524, 47034332, -88666762, 35724975], [585764100, 56897781581897659, -173226697010414995, 174004067, -474615505, 416671621, 762811009, -84907288, 54362325, 242187731, -61179027], [30008778, 13380739645867354, 1477016288789395861, -352153067, 841989095, -326577477, 444860745, 89653855, -27693453, -437569959, 7782611], [-1322358322, 9310884979469044, 1533616687383199683, -131307776, -245520671, 500426622, -311752081, -177937760, -48926464, 276483796, 48527854], [1259919216, -45014573516740376, 614192275579367119, -121314168, -540061083, 59194764, 4269099, -87013020, 73151160, -308239156, -57474324], [370633773, 4704149048172586, 1292466929618262325, 26153961, 624682951, -321974303, -1123273879, -34778216, 66079423, 220010338, 24386473]], [314810480, 2139149741, 1652089276, 2807047707, -1355843703, 1769277629, 2653632064, 2937464716, -135530445, 1364911866, 4205708730])
theorem ok_ctAm27 : okA (-27) ctAm27 = true := by decide +kernel
def ctAm25 : Cert := ([[-1379259490, 36947243002482889, 396721849801559637, -45065937, 159989799, 437774184, 9083145, 291903861, -178431511, 257636686, 5722280], [1586524748, 70063128585657504, 1522229043533553240, -577711582, 21445064, 299334347, 413494456, 266025423, -44721234, 86995055, -148179613], [-1627339677, -5094454220925661, -1897709864313285698, -927439814, 69077034, 241966822, -7662858, -109746, 147989334, 76158497, 154835606], [1434853255, -58761552319060447, 1189221913726266486, 78311386, 497234962, -322455549, -753821810, -26237751, -205172554, 107162490, -25237925], [-1579594223, -29812018295923967, 1519222350268631770, -658278047, 127030366, -65154753, -646819070, 213200559, -147792377, -13408192, -36624777], [-299778912, -67887031339503334, 779964976813437310, 174925899, 783904618, 12043876, 239579062, -43028998, 124620333, 69888436, -182135676], [578635968, -36053299266784359, -1794932543875572573, 429984859, -409234303, 522867735, -332841265, -29829298, 275697821, -2093321, 21119503], [406394412, 22101253913737548, 998750425519355390, -222642537, 953409770, 747776027, -257870282, -78168077, -195598655, -40199169, -89372365], [-1901889995, -21566573848234546, 1847572279251401692, -299293706, 66052212, 104279633, -165625908, -134027680, -64149510, 117023758, -55852647], [-857169697, -18265116065249051, -1800249968280982398, -85955450, -374023530, -283376091, 28255818, -134016785, 3135978, -48217948, -153680115], [-505007097, -40992315015741246, 8245846958041664, -163869384, -115756864, 408651098, 321768256, -41105713, -127954552, -59322191, 31349674]], [-1891989788, 3158814812, 567534559, 3663845310, -2059892377, -832231041, 998997686, -314225990, -1379751473, -603749338, 1194308787])
theorem ok_ctAm25 : okA (-25) ctAm25 = true := by decide +kernel
def ctAm23 : Cert := ([[2507885159, -47779622351212282, -3749971273531528945, 418345156, 368751397, 544922622, -395034773, 104151003, 115113692, 349130817, -119770514], [450056228, -51191288352340049, 1430671666076258925, 260126508, 100432175, -372643835, 538151553, -77892472, -139029836, 21594279, -25108499], [-2247498200, -18389018035996893, 2991885866070271961, 751037657, 521140947, 958885838, 485103645, 15467633, 16454479, -174143164, 70631614], [1928914419, 81469849901805338, 341626646540906088, -69436952, 103101048, 99540218, 506379016, 44938871, 126110808, 34705457, 16820298], [-604511002, 54259472252649683, -633241308478592883, -129088235, 769326223, -199715777, 467088673, -36854920, -177835149, -187759365, 69222775], [755769185, 971069767306429, -789748763496846016, 94290016, -479833664, -54402395, 211712576, 124992787, 14837408, 207579680, -275568755], [356597408, 21572317936390459, -2038390041104680312, 32864768, -137574440, -220489251, -628821080, -142826104, -174844416, -207699469, 27255429], [349398756, -32435976041812265, 55836234646870679, -154932900, -299329539, 853798696, 714090003, 202720171, -48380924, 19672434, 6317672], [-244839871, -56054885580343023, 564064798087254394, 306984526, 403205438, -382169472, 272212002, 226862746, 14436706, -111966405, -101588352], [397456291, 284150941601920, 1803987107700541683, -369819045, 402023409, 1036538975, 224072287, -90580566, 31902365, -70913494, -20800873], [-925544030, -50381280828704505, 1100790354499709405, 147280894, -192072961, 293346502, 697225649, -69102713, 156416818, -98999682, -35885194]], [755907050, 3369049090, -1163706318, 4645129617, -3277856699, -1885125109, 3357680099, 886882613, 2145448111, 1850808431, -1280272141])
theorem ok_ctAm23 : okA (-23) ctAm23 = true := by decide +kernel
def ctAm21 : Cert := ([[1428845753, -49461406737207441, -426951436424891119, 333602855, -724326341, -65687517, 1184568117, 52079801, -195696719, -127665000, -96782469], [760899332, 17493255509471550, -1505981842107720181, 303856617, 433788921, -756652655, -489555753, 37494951, 404038335, -85661499, -96263463], [546234968, -13696993648542295, 1502957364359051798, -124537595, -198731278, 742689818, 217163694, -314833643, -254411517, 34164686, -91772822], [543917529, -82585596462224924, 462397226094589078, 287065135, -31924878, -412417464, -44303314, 145570621, 197191401, 135851361, 79620744], [327634640, 8750377474948752, 266695293156022816, -334446071, -116199584, 1183770069, 437583520, -49295043, 59660703, 811213, 32335933], [1273141480, 64285828751132373, -102657556958222215, 594437181, -464793165, -757958409, -98498755, 34076110, 239877259, -47949197, 97957359], [539420400, 1603324030964102, -676370827386225987, -205691231, -627630945, -614813535, 412338705, -96251525, 287920839, 75305569, 57692777], [592448697, -49951914697263846, -414124734859732536, 38125166, -1203159144, 366105395, -304404504, 78847826, -226292158, 70491916, -107643125], [-483529443, 16382952699629558, -34292621808286538, 842631631, -678371630, -321790190, 103254222, -38798783, 11856457, 198064279, -33510110], [978734820, -25260789345471698, -2229104734674382523, 167944133, -500328329, 239828870, 177424825, 52127796, -70487997, 112470338, 72611894], [1310539312, 84369551077816127, 1075481401713307770, -387468599, 281756222, -468370567, 299916066, 19794134, 93271775, 49210757, -39471615]], [336924740, 1771545736, 4135235309, 2766926401, -401824064, 3089679354, -2343682127, 701036674, -3374444103, 4107375933, 3242063773])
theorem ok_ctAm21 : okA (-21) ctAm21 = true := by decide +kernel
def ctAm19 : Cert := ([[1073652500, 106540563311020965, 1498833904547542121, 322216712, 369396995, -780945858, 878003437, 22238547, 88463416, -67824696, -30355794], [-557892625, -108192070574853572, 159725963024860490, -121242066, -398242002, -405178883, 176990514, 189056656, -233130878, -120585588, 75904933], [-1793298956, 44863752241055898, -281737316334720973, -75880452, 474078129, 424747656, 311576223, 148849070, 208008804, -150221592, 3620040], [-236316384, -124022024048079046, 1168792375833279285, -427577365, -1010147897, -441867078, 693411177, -136540164, 12263309, 91823062, 92175882], [1343085106, -5813127906305273, 1591498883640337390, 650240181, 220811834, 522470152, -331112986, -12275515, -87617325, -64503364, 101564744], [-1109104578, -32902572111862785, 1652085170672815850, -151288077, -62863090, -547042291, -232397486, -97573226, 95085509, -89334779, -78181835], [-2081864849, 61615228521942902, -289890449017672179, 851975300, 441366799, -223253246, -342368095, -25263665, 40343836, 42137509, -64168302], [799346756, -106686819022802717, 1065771436533431175, -271806227, 130267725, -361392829, 338635971, 74611254, -40519845, 132773065, 22977947], [504477089, 51687022305708714, 745001576871736504, 133358051, -852860952, 333430218, -96628584, 168947725, 134740565, 15959639, -87135334], [571624699, 28703480872142531, -1126698204052099914, 354386824, -467495214, 19853490, 185028814, 85858468, 30026680, -71977193, -240254014], [-70947976, -12471508416451063, -523726417602339343, 534265909, 370547163, -277336128, -521534571, -59213347, 96697683, -35525898, 181697984]], [1103568687, -1457611994, -1870787971, -1573591920, 818186218, -331501547, -4224390469, 1608489261, 62269498, 2298947339, 2403264844])
theorem ok_ctAm19 : okA (-19) ctAm19 = true := by decide +kernel
def ctAm17 : Cert := ([[-2501507230, 29276583726222150, -1581924206070302776, 796675250, -72365672, 14304789, 590200296, 28202873, -85431394, -323301857, 300219005], [-539177072, -80671378771063823, 2661618672316730837, -468887736, -212763993, -104022318, -452450679, 107355617, 35151352, 126824290, 87120610], [-188868013, 42769449607604729, 877947868302386861, -656630095, 576387055, 549226856, -694753343, 48836178, 108618039, 21295707, 140673704], [-1275054737, 123354085364725, 689753532985344769, -1070899068, 266107275, -427158834, 481827557, 95477704, -8915684, -67406963, -191644738], [-1096165737, 38443511372716338, 302871540675500734, 361089204, 452400426, 31533419, 259331574, 19254360, 236544108, -177959510, -59535101], [105788756, 4747136879357739, 1045181421413096984, -455374607, -246851832, -234003391, 321270648, 315900818, 22782199, -33508115, 18995977], [179418207, 29963287139883178, -558085643748207517, 110092576, 528259521, -586454653, -747922033, 51468544, -85158944, 78503242, 1786843], [1080817891, -578663328338298, -1590632097872015992, 228731552, 143202520, -769916969, -151194968, -158192804, 93595232, -80635582, 132717519], [-509707687, 51210435674140945, -671429898412746058, 304252551, -21950254, 63284259, 251459278, -62344461, 156784721, 150047636, 95538043], [1491829424, 30997439241512644, 281567202838149440, 143401273, 405460416, -358935111, 175060544, -176656723, -131389969, -8889423, 45027905], [728825028, -66253767500627655, -881396271652869038, 61906935, 737312902, 186999298, 80259930, -82157123, -28306335, -35450618, 111950738]], [-2591544356, -2350092281, 604620514, -3092812225, -77196841, 4053178925, -1887724908, 1678853766, -2028322598, 2133220644, 908383529])
theorem ok_ctAm17 : okA (-17) ctAm17 = true := by decide +kernel
def ctAm15 : Cert := ([[1634633073, 38052814588572114, 2440674949702483210, -492635450, -466627474, -1159751185, -2390030, 47159866, 65607082, 145509932, 195066023], [2837040533, 27905315849896181, -135725697270347668, -1098960768, -704204124, -791343769, 501066908, -40233351, -21986432, -229939394, 82641375], [-1533864400, 18476399861070248, 289570921862333092, 437568271, 429051660, 41172929, -229775180, -1208991, 330494729, 161916297, 37892745], [-2450204818, 131844623087673664, 642291399283095690, 336314097, -523132178, 14176668, 5882226, -156105078, -9348361, 139844554, 6161276], [998902523, -65263255661414573, 368483733538714971, -146504634, -43073431, -920242898, 901890919, -8655268, -46962646, -89674145, -102745826], [-761905896, -52176110478750212, 1363888557851112664, 109219246, 27177288, 141337197, -195703496, -280360919, -42700542, -40551451, -192685163], [-12116594, 1584696814076155, 141165692390585175, 700364700, -80721859, 665737463, -205895213, -21090984, 108576708, 15537539, -235301393], [-116654444, -105567407191096337, 232849340873351565, 132861907, 250752911, 678021756, 433123873, 146517663, -60049947, -211477762, -84579492], [-691533915, 37760177591649466, 1073143254933234260, -833377535, -151927908, -88278781, -463761116, -60235190, -37628569, 128711588, -164434085], [-135653522, 2910289064093573, 763465044291721197, 96896801, 1179841967, 594830405, -116558335, 31748864, -69638585, -92718251, -65704403], [400943196, -9861902733683500, 351619037589009401, -794605208, 438767667, 473423599, 489214141, -107463273, -100808488, 16834987, -56449625]], [2279891913, 340534981, -2428608615, -2919977492, -722304622, -493575270, 4855683092, -3627957097, -2868701532, 536520334, 2354932307])
theorem ok_ctAm15 : okA (-15) ctAm15 = true := by decide +kernel
def ctAm13 : Cert := ([[997439555, -27861082771525116, 966477959940824085, 1544964557, -23644313, -532309888, -221141559, -6732225, 84285819, -108686717, -90784640], [411883076, -163770260864877037, -443297497780451983, -896176508, 340380763, 814156042, 431593749, -88643465, 9672476, 127875898, 150831322], [394939935, -154964820694804724, -938659658170239880, -1252744571, -785056472, 233556841, -253896872, 25788900, 165776259, -242649168, -16090767], [1211760519, -48678849272527322, 763508741401022413, -974608013, -294122417, -234400141, 79974753, 70125620, 271041861, -184281158, -202765237], [795729790, 83388186750724860, -612566911143695040, 512526846, 553357760, 664888985, 258816576, 102152051, -178555598, 78043183, -60550623], [171617637, -87933528723562007, -505270874853797816, -48678561, 533763864, 150712163, 334604392, 102501131, 170986809, -192635388, -17456965], [1407444011, -35737335699516055, 1478805777556512368, -347685887, 49678032, 522623929, 376244784, 168610231, -65688473, -166016976, 18040897], [953415356, 70353755042732732, 1028954860517952560, 155095310, -154952176, 108705267, 230061808, -100825349, -13316958, -266390665, -110229557], [1597554693, 124951369436387848, 541873185634371622, 642225280, 388938914, -40499269, -222499842, 68945536, 57720704, -60918520, 139025875], [308131584, -24414209278777632, -596894197181049724, -722794879, -417823828, -839043433, 266307092, -31768529, -8149529, -138361585, -114288497], [-393008347, 3565326563626377, -38208315774443890, 102914898, 713303834, -291056852, -969609466, -20973444, 2969086, -37535467, -41288308]], [3508495967, 4364340941, 1638730338, 2160978890, 4181319639, -4247222567, -374166717, -860294002, 4710395230, 3787377007, 152022905])
theorem ok_ctAm13 : okA (-13) ctAm13 = true := by decide +kernel
def ctAm11 : Cert := ([[-703540235, 102243323785110616, -737788330173203985, 599484178, -233841467, 1044005943, 414316491, -141688980, 18810942, 230565188, -81114321], [1629907075, -113569226453463672, 1506705016581403346, 463275560, -398604282, -395946637, -257541158, 3707494, 39762456, 2354286, -77839541], [-1178855449, 70791527520970406, 787615147539090857, 529341408, 1217643203, -6695139, 131996461, -106230374, 44381984, -122436192, 98236869], [1948186403, 27824753955339698, -464669804474648426, -136656028, -373405326, -1209062769, -7581650, 91413588, 174257468, 65505830, 139429447], [1242167705, 36669005144000044, 1047822541052117353, -119549592, 335272963, -303935742, 86746605, 168260055, 244875480, -104605501, -11120494], [679254117, 197448501383896447, 383036365823894329, 4485897, 472545267, -897913637, 124982525, -37031005, 31625375, 37108370, -103169037], [-1168903233, -143284778329958745, 737606573504652855, -335683133, -157685795, 306733197, 257584179, -62974553, 141815157, 73018430, -144137547], [-491418195, -40564422065679720, -1512516447830694451, 88966767, -430342577, 997720458, -553877663, -186561521, 94670505, -3759065, -39674534], [962340448, -93674048968303309, 692317896119809576, -39268640, 1001547704, -68400953, 497281480, -19101218, -43893728, -55067199, -10215361], [-726011227, -53821457239142007, -1203460309409283536, 662510086, -47583216, 293446861, -594557712, 58079383, -123361174, -40237776, -82560779], [1317811158, 2704969377167499, -687182134646451151, 115656460, -583692645, -60202456, 583748309, -22525931, 88372692, -106755888, -44846744]], [999099938, 2299365486, -3326430983, -151371901, 1649220119, 579646303, -4642690225, 2995904454, 4561890803, -2013284069, -359148002])
theorem ok_ctAm11 : okA (-11) ctAm11 = true := by decide +kernel
def ctAm9 : Cert := ([[-561558786, -123575541524231368, 165530262083003508, 1031569465, -505156868, 147858028, -356853820, 252332210, 131686127, -223071382, -211929396], [-634124061, -52294802528729072, 2468865491868015524, -178533559, -373612020, 850218931, -286227020, 134230478, 151589471, -36658466, -74989685], [-1822267662, -126445059618926840, -1082739709392514552, -100418041, 570264152, -990058265, 874281256, -81656791, -21910319, 122910641, -57255585], [-1277220159, -62928614761034673, -997530527052096265, 602420899, 2171421, -1311379850, 529409523, 179850496, 40047509, 161593279, -95497562], [-985657278, -44353012347957894, -39574747915927469, 873463346, -619416303, -293671728, -337986753, -96780984, 266393118, 39078754, -16437424], [942524917, -104037860611480666, 2919695555345847, 314829938, -239932835, -1228159735, 324907443, -18287264, -105401890, -70845850, -31459311], [-658120149, 71669712624672972, -934707617293394205, -382568296, 342674753, -985116081, 248644111, 106016694, -116177624, -100684990, 61258759], [-241890654, 54717198610195733, -423200335730359546, 138882471, 369587266, 80921001, -122849698, 29858022, 256939569, -36773941, -196947535], [393033284, -66108513559316018, -804454914285550711, -785404226, 496026467, -37678543, -435934067, -12183329, -31113614, 125901453, 123415673], [1010822064, 22768861278385605, 776325665454130032, 104426547, -237445680, 639210619, 365585200, 37078022, 112992389, -120955237, 119398547], [490432391, 42460375358736174, -1013739953924183375, -90830643, -804338149, 331638409, -272241835, -14256694, 140767867, -25244968, -74660463]], [-1269459927, -1671784378, -3444389277, 1857850356, -2820473435, 4862699870, -3926020638, 3193005464, 2185189373, 2593252368, 234882116])
theorem ok_ctAm9 : okA (-9) ctAm9 = true := by decide +kernel
def ctAm7 : Cert := ([[-826740544, 272029766957204002, 691328154835284131, 678062542, -313347967, 821863190, -161553713, -13789128, -123797022, -32151174, 272180294], [-1759368556, 72635344028332194, 1923811987824033078, 155357613, 240012370, 321732793, -64957618, -173701177, -65665893, -138940535, 41866561], [2040564537, 37806648254922971, -759042677104132199, 242897287, 180789267, -175512424, 486069981, 179331604, 251856209, 1407007, 39967576], [1576826565, 554756677328560, -468263724119150833, -700770273, 546026789, 640666292, -267788949, 85771225, 96971897, 24774025, -91523244], [376257921, -161571526973270689, 4657111857508769, -729302677, 35277419, -26178354, -1240911867, -141330970, 78049805, 12952245, 61965758], [-1271192546, -200021725043286637, -371132463363882936, -122673798, -443914472, 546980862, -365373336, -129058793, 59434006, -101965222, 69540462], [1190220072, -235112165496711709, -25070429705243438, 251270288, 220896774, -200693451, -164739622, -207089856, 54707696, -65110317, 61492893], [-206873178, -135409161095389818, -298534039232219758, -435784310, -158398906, -432777873, 1021129114, 73871203, -3827066, 1031241, 84258855], [901014993, 111338185865999087, -1167769242281775688, -19381544, -97103128, 114734686, 352226712, -105004202, 219784424, 148000437, -40867890], [-66421120, 103167493152106327, -2397318063481204881, -279003205, 190859589, -103570555, 370996043, 1750524, 89979965, -28991421, -33351827], [1769925748, 40276499412618611, -382625902548144588, -538846405, -271714756, -245650963, 524816516, -37919020, 49876157, -47321353, -88162539]], [2064386367, -2638801676, 12043281, 1780319120, -502446826, -1612359797, 3465888042, -1148522153, -905552087, -1722725366, 4043759621])
theorem ok_ctAm7 : okA (-7) ctAm7 = true := by decide +kernel
def ctAm5 : Cert := ([[-534117898, 228776387839181594, 932492292406077835, 12169825, -77851015, -647319231, 624951895, -195853763, -49689337, 76296183, 154619913], [1809123798, 60360539429818499, 595679596104630274, 255777889, -807538410, 154319670, -503015478, -119327459, -34753785, 9673040, 246846822], [2054223483, 224274157880310639, 2040019677645656414, 52718054, -353337846, 275169341, 707924758, -275156619, -76166262, 95194452, -47807515], [-554625118, 24605558025779338, -186496692471046841, -1249150245, 369560973, -188889349, -111043197, 93130371, -13285859, 76783789, -106723565], [191467157, -2764930949062947, -177728942945339015, -394994106, 344460467, -58802250, 48249917, -219772630, 175611434, 188365399, -58188314], [894213311, -73786647649783014, 498607614201993427, 651559528, 315196049, -247591563, -31562305, -149908310, -30525480, 164131428, -182057763], [546745515, -130420558861286824, 534748810591879205, 53397813, -231896041, 143558050, 263411737, -219439339, -237200301, 71369453, 22787122], [-1452201568, -70168450143854749, 324234260345675928, 475225560, -110710136, 345352805, -852234248, 82400142, 41517544, -58170207, 61996365], [954492314, 50937643007346208, 1093803052978388744, -37394951, -50103976, 207334662, 693516840, 82708176, -61092049, 97074928, 149795254], [978070356, -134784899333302204, -166476838584606103, -103298669, 606947075, 23597967, -39539987, 21539911, 106869285, -177446197, 100824903], [-162144408, -238226580878943849, 429897509006777684, -57753387, -829010788, -147817869, -303769564, 3095952, -13222477, -34955753, -28880821]], [-2452852065, 3945329142, 388110735, 959827480, -1524881621, 2871112802, -1728534220, -4222806689, 408374514, 1836802828, -524765903])
theorem ok_ctAm5 : okA (-5) ctAm5 = true := by decide +kernel
def ctAm3 : Cert := ([[-2026627814, 324160815815871314, 653336832243774995, -274378494, 20079697, -837504395, 179785727, 56516289, 260810702, 112673843, 31560157], [1091056894, 70518194790918744, 40150426336715267, 390922914, 577716129, -912521585, -133075537, -86115555, -107929810, 143558389, 66601543], [-429499706, -231044593800295172, -1897149585356499020, 223898801, -543424836, 683676351, -878039036, -127214487, 45695799, -71909595, 32281591], [-487680547, 330077347083318892, 646788981164120962, -509991469, 461447062, -795524479, 118452554, -104843086, 141807589, -178441250, -61842615], [-23404099, 585110516126284517, 605763721617489356, -283905895, -646730300, -552670340, 226855804, -8445942, -11889265, 762303, 4215900], [365275110, 185905798921135791, 2117830626649304056, 328259233, 157441960, -327012080, 38452440, 92851193, -88382777, 75589400, 175031696], [-597519866, 137318345866802944, -1396197691326211420, -319536021, 160700172, 245736771, -808771404, 54649985, -55910643, 58182529, -44356197], [-1194394848, -347808811746440158, -759394204559516225, -774563765, -163475787, 25467265, -316722981, -64787037, 29302317, -77977371, 58174025], [1810418345, 88262401008349605, -509523466842383246, 304036274, -178036250, 385811360, 285300730, 115326650, 31311518, -55819473, 81549472], [1742276698, -26830837129912983, 448936011045273246, -56603360, -121270326, 240897696, -113390250, 29234351, -18348064, 153066280, 4438944], [-879516965, 369717909147384123, -579530671370828385, -228581946, 354563413, 194429501, 166165563, -120517649, 35269290, 13996122, 2102757]], [-1328741632, 1536827678, 236406536, 2926597735, 184462641, -1165046385, -333877075, 257732496, 3261614220, 5203585398, -1333843764])
theorem ok_ctAm3 : okA (-3) ctAm3 = true := by decide +kernel
def ctAm1 : Cert := ([[507936781, -666996358611996546, -2064744847775266424, 248444559, 390360280, -279309206, 149413544, -109691911, -63329399, -62089385, -81072326], [-799924044, 385896240971300314, 644976207338783093, -148262683, -163167609, -205055665, 663516329, 276934529, -150121437, 156230651, -64161017], [41050968, -9327506366640102, -1110023947268196574, 381254621, -332406922, 81643121, -593541270, -204376361, 37731819, 79233425, -75648327], [-565155185, 629373604692550866, -171895928155386056, -176642596, -198687896, 643083811, -127056616, -11923000, -38167676, -193664838, -144136837], [424566595, -1706220595534684205, -311029677920279726, -222926299, 250764678, -366938923, -174268838, -338018579, 41278691, 139751280, 79114045], [378995378, 309398459322696851, -1124971884827237132, -56201651, -191500164, 227063119, 683084356, 237746198, 2672891, 68254041, -81758457], [533427748, 2059223290741451814, 87764614726256851, -400601737, 41538193, 53504186, 251073983, 141491688, -62659871, -94891154, -69311990], [-276468138, -194834597473727869, -261516195487753494, 309878996, 699092238, 196448294, 221290834, -187963175, 7705932, 86632204, 34702806], [-1355480626, 1134668626668904186, 15803419584579022, -377654431, -142493990, -89462444, 376015686, 162936200, 30700551, 23817506, 10814196], [680625066, -1212117821792699715, -1082521764327503602, -247230715, 532380314, 157986255, -504482938, 34785604, -26823933, 55624785, 16683911], [57536248, 14083794710393496, 1311296081442088040, 130366978, 491390072, -211599429, -145651448, -30795213, 63701710, -24554933, -95791661]], [-1969239581, -1914276259, -601123838, -2893059376, 1710120099, 4288151300, 5403248579, -1537917016, -8097146941, -488478489, 63171021])
theorem ok_ctAm1 : okA (-1) ctAm1 = true := by decide +kernel
def ctA1 : Cert := ([[-389598601, 655203353188320603, 1103401678445300015, 160800474, -256580475, -608249926, -692282357, -119009476, 61454774, -50335289, -162559734], [139680617, 967178332651554454, 2937164048055229005, -300441173, 19431375, 327120528, -381782559, 41403967, -53517363, -559819, 9459472], [669710408, 374800679123292529, -1537278830272408552, -97755671, 81701128, -213515330, 411074936, -103889417, -175566657, 15512824, 45459502], [376564393, 136713890048381021, -1966135826587365180, -398301812, 85211756, -218552771, -129029292, 30369803, -18662572, 165814968, -160392731], [-23932504, 278069697706033288, 2061800741473169314, -219090145, -127628042, -313827864, 707088874, 94899800, 30067065, -38253728, 15293224], [-814796537, 1172175692376980673, -670607342315248331, 275940310, 249932743, 160432513, -10768535, 29268177, -89015526, 128675874, -150187447], [1007311148, -565076210581829054, -133825045418053720, 303860147, -536321992, 49205924, 155785544, 89113874, 134807301, 95940724, -44666172], [-51173253, 1225608611259019166, 595478553879707379, 89167123, -77597199, -348436107, 200613983, -19331002, 173314725, -48519996, 90841309], [-454418167, 414736388662000553, 799161882113971731, -102519925, -424999855, 39139093, 365998079, -71621617, 70671597, 148196552, -95407235], [534363992, -760707502276535449, 346179091050721365, 37408214, 786150951, 122921102, -280034551, -77350483, 77037850, -73072380, -8190082], [450621837, 471043264363184967, 143119674970078882, -97555092, 32305654, 432592400, -202146582, 8192356, 92300916, -156819813, -15052144]], [953150756, 4360545825, 7473593266, 1348296323, 586281533, -719974490, 8132250837, 443622703, -2644475488, 3695675884, 1726508193])
theorem ok_ctA1 : okA (1) ctA1 = true := by decide +kernel
def ctA3 : Cert := ([[751683570, 144742203895350504, 1048857359936085128, -431222108, 441056728, 346579498, 666541480, 50613444, -198139908, -149470164, -44762374], [749936271, -142428516994945897, 62100408665411104, 70908469, 241183584, 286124642, 1123975840, -95047482, -152743085, 96179277, -11743502], [774496696, 637084403333028068, -1574582722389473249, 323915369, 375066837, -448009883, -504252229, -16043279, 63870015, -69172203, -22711219], [-831913031, -180191894053354736, 295806620876885510, -68261281, 831089986, 660783324, -111391394, -16125323, -75512775, 188223109, -151757636], [90011794, 582492870476202169, 217801950319798248, 496950736, 208382712, 554975828, 143354504, 86861441, -36061520, 175983946, -153099276], [504460223, -26754925240174342, -532856384563734511, -820847076, -91264709, -192866793, 431399477, 110203980, 210255172, -91404826, -5729265], [-680494285, 341404393178270884, -1292067672593846380, -163330059, -557206180, 177280813, 501902180, 83902500, -146465901, 88203528, -78739883], [-96484746, -346549334587516928, 858765090435987691, -372633848, -23367783, -735058771, -81992905, 70641451, 113527864, 78298923, 23322581], [1159873640, -131059723131711979, -1200987651501863989, -250028186, -63082695, 207913141, 105031063, 142362292, -58912246, 72107673, -20217315], [-539278860, 64625718769379665, -250335797578126526, -391986832, 134065366, 66840329, 271108106, 54916840, 59200528, 111799241, 129149457], [-853524611, 26617246604824540, -531339860153941653, 283847407, 226479385, 2684798, 594165175, 90771279, -13255127, -38006037, -34731538]], [424473649, 3015336585, 1018805319, -2614624283, 2428586502, 832886125, -3444571865, 324168162, 4726719782, -2036481885, -3948380258])
theorem ok_ctA3 : okA (3) ctA3 = true := by decide +kernel
def ctA5 : Cert := ([[136600366, -264930861680431997, -1167565084606030317, -560678518, -115188655, -386045871, 913102847, -191021530, -215812474, 64159321, 209144729], [409868371, -308998403423242150, 761378286594384242, 871587702, 634722534, -323979158, -216674054, 273527903, 40310906, -107836583, -32541894], [6539420, 168356287204080310, 1931700843514756165, 117613885, -379670153, 317269188, 145555641, 226910382, 16409483, 187913668, -15897116], [-2154958532, -297877430789621117, 50141407234867137, 437175061, -283937333, -493281499, 490648229, 61625096, 231286131, -69746373, -124540915], [-56634428, -118726420492986237, -74633660814146031, 773971050, -199138501, -720271971, 641779765, -95884728, 100859558, -110406021, -35849147], [1680520761, 124631974595508782, -80023366839804288, -667797144, -45658240, 379616507, -184809344, 149438818, -67086120, -49710736, 71068947], [1295511540, -112895672865548312, -479338501424089197, -225120601, -284887855, 334913595, -480811137, -38733169, 44121393, 212055287, 14735955], [-1103327954, 44839255368155809, -1389821431594254065, 449759457, -536069339, 64141038, -72009877, -24759199, 70900359, -53960814, 105978078], [195229770, 118562378738294744, 741119997455782382, -189671451, -145732550, -699014604, -37174298, 100237558, -99810013, -18474418, -113120556], [479049769, -148895620478673872, -204629698751777886, 279408231, -69060362, 283673058, 181495274, 42831707, 1090417, 83879563, -189021582], [-155609578, -286720600150578558, 670221650592727809, -5682262, -289605237, 196516952, -109077787, -103840712, -17120922, -37800998, -65724136]], [-693086619, 283685749, -369482704, -2247579268, 5951282859, 4336286342, 3131622394, -2076067226, -585874663, 736090067, -308920236])
theorem ok_ctA5 : okA (5) ctA5 = true := by decide +kernel
def ctA7 : Cert := ([[767728693, 13330794464063895, -499455391481745157, -866750637, 378888265, 130320424, -219170425, 224592862, -58629531, -98632603, -147028120], [-46535349, -86705747439390043, 446886512867832637, -1480978, 48204319, 736338198, 829559953, 194853172, -56632894, 45616809, 21926470], [-1073728099, 186642541856038030, -333732946351490712, 454604554, 224930680, -507446437, 174887432, 132371490, 204076294, 43254928, 40183411], [-1198258869, 54262026979047282, 662293585026647706, -114634009, 82445726, -701938490, 272090562, -26986193, 135402225, -118072127, 191944566], [-1776317775, 89841714858474190, 1276797322982132324, -309272719, -826866612, -502612474, -295954572, -94329991, 218459767, 169997863, 46533302], [-399414499, -186243621723227621, -83329312450155928, 241435204, -756021640, -687223035, 291645192, 32022055, 223283548, 141992306, 86589165], [-567764336, -137571110471435898, 797442462769813681, 722276225, -394575845, -428283450, 356356437, 89352784, -142785305, -55651530, 103638134], [1315378189, -47436157541356386, 1155248179781571703, 184654136, -440531811, -318303131, 283347827, -66382372, 74343816, -88211622, -106547379], [-526756167, -79833519251465122, -8642261595155193, 475512087, 750867149, -251135098, 326024259, -56996495, -92943295, -96173393, -138324938], [684242817, 66747917154444380, 750054072619233435, -391543491, -313201623, -804716816, 49447847, -13316347, 35554187, 189509409, 26864240], [-259546371, -96949897139913362, 1017405912451752122, 20209494, 513160446, -205129551, -413694878, -37533656, 126684058, 59447158, 35530489]], [-1264994581, -702192924, 648382578, -661131677, -5606906358, -255879519, -1006978476, 3711481655, -4142973602, 2969235434, 1696703352])
theorem ok_ctA7 : okA (7) ctA7 = true := by decide +kernel
def ctA9 : Cert := ([[-149858669, -48682643209561454, 51996805747138205, -61326014, 230446911, -396689561, -94256783, 272568996, -219499122, -60548266, 220201951], [191663655, -225198881766991662, -923672369391323520, -568505934, -62154880, 386168807, 895893632, 5515576, 93730462, -108137430, -6184865], [-997300051, -87169410420965083, 1826174919798527570, -573356093, -273887610, -594903428, 148946266, 98823606, 8386421, -88999509, 99794780], [1596221060, 58521005616635725, 2333763885835013297, 398926186, -619578341, -180807763, 5608789, 165314590, -240533082, -42184517, -70718763], [830728499, -77559531972141374, 3047732759300673960, 336721006, 91969080, -261275974, -678100152, -105655265, -44251070, 40786945, -54892534], [-1418036570, -13735848062813478, -2038394734960383380, 45836582, -108762972, -408057821, 800773788, -143645877, -114262454, 29156549, 114544507], [-1859393943, 33957822227453080, -1359308611696673674, 360607721, 131785746, -85210434, -120526962, -45748929, 69095103, -20093097, -153426130], [1533082597, -104401986535218203, -573608445737855497, -341993919, -273722083, 107607687, -784276749, -132754479, 98139175, -291194, -46101505], [-109093301, 35252698187982402, -640649076940080000, -631798754, 455350656, -123635095, 562847360, 35255454, -204007406, -78824448, -11739023], [-1334879398, 50625967125669453, -722647727862546213, -245032593, 66404073, 924600028, -245216025, 31049403, -4672599, -77361576, 74879676], [339715751, 86569509881178622, 233510335872432392, 449899268, 151779160, 309320212, 60759080, -900007, 73838236, -177278665, -2029132]], [362817754, 42412441, -2408088324, 154042763, -1458506032, -1050125456, -3797488969, 2154031038, 831867708, -3439616291, 2072210768])
theorem ok_ctA9 : okA (9) ctA9 = true := by decide +kernel
def ctA11 : Cert := ([[1303114135, -15263249539923952, -1674751615924871499, 358242652, -818502585, 216725527, -160047383, -43735418, -14363644, 162631574, -124582385], [1342302436, -38569591914975796, 2997997632625933611, 411042599, -945570215, 150501799, 469201015, -52294073, -52790095, -12966189, 20316191], [-1404255265, 119392745850359329, -447605916714262695, 1005858707, 558341459, 126092369, -264192611, -65220925, 50052133, 56343924, -31996007], [-977583081, 41536485346629785, -75460347361190295, -858839097, 555490051, 365823146, -671869203, 131757060, -103335663, 155017389, -79982214], [-498908905, 35487194432886803, 144936641539112288, 243532587, 96277280, 769829001, 208094944, 29452345, 192323149, -97323780, 144086929], [-1426652099, 21937180288404805, 102327918698249681, -1088672868, 386558075, 57026481, -319084811, 286513197, 179465156, -138591678, -125891079], [2665297163, -89440281887495399, 648385779376011851, 926674244, -5476679, -595807789, 269352471, -50004503, -75065764, 148350226, 197675691], [2097506845, -111914142200283034, -125468336443110, 33413158, 715102494, -100768763, 128371266, -184120676, 6498122, -18425758, 86391789], [970802259, 18183688370370227, -897525254707513094, 413870033, -67592258, -214244197, 934589858, -49406153, -19165929, 200541338, -30783053], [244272078, -123900532405576528, 753175775358543926, 455043447, -565140142, -91558943, 143477326, -156530585, 36644577, 175056919, 14931881], [671009152, 67890506562989603, 340615704001558653, 299654807, 36381663, -454785226, -219560239, -161995529, 132040385, -9400118, 167756134]], [4254544855, 3093374273, -36259464, 858227573, -78259804, 2112310242, 1532616433, 3722408867, 619740796, -4372942754, 1619630654])
theorem ok_ctA11 : okA (11) ctA11 = true := by decide +kernel
def ctA13 : Cert := ([[-2357354440, -22581995197518637, 997601686706954573, -794313734, 68815, 644428671, 461437153, -80147434, 81555862, -159114855, 135416503], [85803818, -107401668068144273, -1191210595073386033, 463416119, -1402262683, 874307538, -393471189, -29931905, 61086497, 34959966, -138460190], [1870335178, 156919779910361306, 880472453775843450, 579539182, -30191042, 236162419, 464341794, 112652391, -117751870, -161466399, 71121739], [-1578965692, -14359860598783346, -1105699899202755414, 451261841, -21047218, -88095342, -804496878, -41990724, 148411735, 36109354, 45393826], [1652033249, 67087682132490559, 1559921655401000142, 150756392, -913333286, -393148153, -180048314, -29367661, -26586088, -9739966, 151523967], [1062041017, 128272829911355938, -57133419375105548, 337249361, -877664388, 382494774, -344505532, -85299639, -10861417, 149000075, -105682330], [-1081505662, 21597488856107590, -439688589065704490, 240313964, -1100260046, -280457595, 488024174, -95560451, -74574476, -73547101, -19162515], [91286215, 10519196488923247, -390388266291431941, 35956349, -528558263, 148682354, 507015815, 10211276, 196273227, -70436693, -173193342], [-573231382, 15930389954431518, -1291673765377550153, -563471514, -174550179, -324556981, 224385203, 33118419, 34354698, 39516113, 157279715], [341959576, 49651429774444176, -1325440801193368121, -395308402, -220288243, -171756736, -75515901, 29201064, -131340510, -116200904, -105366208], [-377088121, 30578348127352628, 404106742834013024, -269745276, -24234720, -300178800, -148454176, 169734827, -82736612, 22171423, -144776432]], [-2165590985, 636543221, -361554303, -2737944869, 2519962904, -612450794, -3502763449, 1562770812, 24270839, 2383827005, -3700395506])
theorem ok_ctA13 : okA (13) ctA13 = true := by decide +kernel
def ctA15 : Cert := ([[279169116, 133786743790793922, 298386087798063386, 334926512, 534595870, 567346070, 373299778, 175595040, 13272272, -216146942, 118155462], [1170732355, -24800750449788222, -83424223030425459, -989949317, 4742287, 628702653, -222833375, -230253098, 121685885, 88408504, -170848923], [983436566, -97566755705973679, 96836846864204073, -1055086397, -786679485, 68347424, 281160877, -19138235, -32637323, -30291674, 30617376], [-103603599, -38335788470230264, 2837103122035492600, 376568417, -153991000, 303537074, -155802664, 70963579, -59849465, -128706301, 124274370], [14779213, -3852662359423725, 746824493125188600, -503501422, 5656488, 1081787880, -454964008, 59196658, -70654530, 232345269, 63046440], [24320187, -8959448285259937, -1359846570550119953, -315195950, 917619909, 463970238, 111185867, -190770822, -94687362, 57827401, -45538258], [-255039832, -53554469300730266, -1250097187200992181, -429725636, 279737, 1236987159, 77269015, -42350895, 101535780, 90192535, -11640049], [-730039240, -25698173406253234, 790462134598851849, 220027515, -66413597, -994743187, 828079117, 60327679, 31670141, 60167725, -133007979], [-742277859, 58219151324632350, -688062200217033075, -327750045, -336796017, 892364836, -47420639, 53449811, -108199467, -28594607, -145042364], [1109723731, 82829154750838617, -351075161099420249, 670700291, 85615021, 611000001, 152171363, -113489677, -59392459, 133521500, -9221751], [-743035589, -25917187930335259, 781825249276081171, -438969599, -531050927, -304626782, -220199425, -171906440, 77800807, -29353683, 177562162]], [759732834, 2200521068, 3835880366, -513419223, -437091708, -1762168421, -2254819034, -2839832667, -4062767429, 2627628685, -4444344044])
theorem ok_ctA15 : okA (15) ctA15 = true := by decide +kernel
def ctA17 : Cert := ([[781767063, -23591954618544462, 172574619467339009, 124487984, -356286581, -820338703, -1266354971, 95498482, -57822640, 123502532, -212174791], [-1800586555, 142230139595942865, -707680241115602653, -700084695, -40155647, -165549908, -335444657, 57430226, -47351169, 115519539, -139206900], [-1864591645, -19513818284232693, -803890319901050017, 470517803, 220390549, -93075787, 335368443, -61143589, -115007155, 21509654, -324962275], [1942821079, 72180482182048026, 844878903869132259, 390664983, -523546047, 1349999380, 135531791, 39799317, -62953919, 11533775, 115954356], [-132052088, -17068131272995438, -122835755145649659, 149119402, 1376563383, -527689920, 816743801, 35647002, 101292902, -8283700, 92488000], [1149149470, 21601598973177761, 1324805193805839381, -619423337, -169846937, 508735172, -490568247, 247678371, -46349375, -54579756, -28129308], [219826720, 64102389647714212, 564040173848233720, 544384849, 521865384, 195950327, 761914328, -145964493, -65283689, -219271657, -35347473], [1323864305, -31670369921806449, 100934493180117565, 529899388, 481783583, 188313381, -28786799, 682557, 254741220, -89592772, -105744371], [1052768165, 106799588397856621, -652134057162536155, -635452107, 111035671, 297080001, 206532377, -128666293, -189661101, 40955912, 52260745], [-674721703, -84676352337393461, 1338807885255486653, 113471245, 20071071, 175620148, -430537711, -149865048, 165287483, 72594083, 17905876], [432393549, 55197277805285586, 69253431031913389, -284683192, -265470225, -138650779, 765972673, -3472964, 48392440, 59294894, 49739341]], [2459777186, -3191623615, -212382628, 72351140, 79746667, 703309061, -688197325, 2911220401, 3846382673, -1040203342, 2286700147])
theorem ok_ctA17 : okA (17) ctA17 = true := by decide +kernel
def ctA19 : Cert := ([[524482243, -9354780061486158, 943539494493943603, -221358682, 665960625, -532900758, -179244641, -207902845, 137471434, -401216683, -150900934], [597711740, 81336401277005947, -377999716922627688, 440573216, 110826888, 1415152072, -213943048, 181932533, -38389792, 61956512, -210827768], [-1027262590, 57837543592612469, 652869816144936255, -1002356046, 544631093, 316940707, -368959909, -167714756, -36215394, -27403647, 29906171], [1654460490, 788859967418015, -2019652366574059722, 559064242, -311647662, 423428542, -412132018, 31986869, -85601378, -24129852, 56301102], [-941452363, -131503530631250867, 2731239542089064305, -70917770, 292678235, -167800931, -458958059, -145790671, -64395654, -173168946, 69916229], [-831732897, 19235802837250031, -1965896918720591000, 741390912, -88133256, -360223369, 583625736, -30696821, -43192384, 26948330, -70472081], [682834381, -53550184444377021, 125659866132330202, 136686223, -96880546, -92396806, 870723330, -157600976, 62658441, 2779939, 156671562], [-726322749, 88396040029240, 2187409132918444502, 382162789, -355418318, -715592595, 156624494, -86595856, -55619165, -287712600, 108131733], [-269656117, 15444481125560362, 2352570679856514857, 459294377, 419707715, -483885086, -483341651, -123735125, 11646463, -69810315, -21876622], [1101387407, 9768572654625269, 626058190038975086, 285449501, 205185466, -710045030, 392783462, -81472568, -149086549, -105556595, 57131754], [-251392147, 41311797110279657, -1198236413506955180, -73617035, 802706844, 370844073, 59285284, 162472873, 89591315, 13968034, 20033969]], [1460944530, 372191850, -1988863329, 1438323173, -2038324226, -4554977056, 1323417108, -2685011871, 506639975, 3867682872, -1395188560])
theorem ok_ctA19 : okA (19) ctA19 = true := by decide +kernel
def ctA21 : Cert := ([[106953743, 44738141716261396, -1486131945800543937, 321185228, 1220232501, -450815826, -1120533925, 277323073, 67556628, -107836779, 190503070], [-181672815, 119353470384689391, -1124593396955074563, -442157885, 333776479, 351876404, 540159057, 106569856, -178367883, -28431905, -30796332], [380057479, 85523219014887896, -911240814728333924, -12286743, 729103284, -280830857, -468998004, 50534750, 58245567, -318268234, -107817617], [112930841, -5483543724723153, -961106582518035691, -788560527, -447071129, -33581092, 1385640137, -57768784, 62535799, 63702351, -111858756], [-789972940, -6773486778551842, 1484346518595379564, 980969514, 291784100, 331183015, 296683932, 44235817, 20134118, 44162791, 184961567], [-559478665, 72784204986051857, 149661397631133688, -1028142517, 636597160, -637802541, -190732072, -109921401, 42253357, -12136408, 104968363], [-1971810796, -17271105515078204, -1551973619185235497, 73585910, -403013699, -37412616, 487844435, -84866208, -85238022, 13188964, -213794120], [892113302, 37412256380498618, -625655323307011585, 510194804, 283864437, -10896973, -838521317, 20528227, 182319788, 120513469, -3212917], [1458139142, 4781189931976302, 91239236649906966, 370958008, -349041422, -212760555, 482092206, -55229239, -228598776, 47508759, 13618301], [-1216346127, 1681317164009012, -1064355814698801136, -285456883, -603209552, 281060344, 323094096, -150579843, -9398469, 47116529, 136814008], [-1012920250, 4276235736146288, 390847370215806521, -263281830, -600119053, -816933660, -129960963, 23326298, 4098358, 39337674, 118945540]], [233793674, -1045133580, 719166631, 1818039602, -2157479077, -992863144, -3953003415, 1129983468, 3530145606, 149156945, -1702728587])
theorem ok_ctA21 : okA (21) ctA21 = true := by decide +kernel
def ctA23 : Cert := ([[1712642084, -18316065471015971, -596857135875082638, 755760034, 6209510, 348386070, 199055866, 336676277, -248558034, -16008222, -17370042], [495256085, -14958166446203955, -503753985075751890, 123918896, 218006778, -936615142, -609974490, -78050902, -208189104, -52044089, -255101078], [569594834, 111494462204853823, 177956336879008195, -53609264, 695313633, 143829144, -306156433, 220950915, 46610352, -106642126, 64208728], [981633794, 49050686842570892, 2749447070259653349, -305839463, -293764521, 187015706, 7149017, 38584800, 53646223, 118833452, 240774762], [-467453362, -58956370442961256, 2133850702071926745, -36949740, 194130643, -463078753, 42033181, -84866131, -38772980, -79835195, 187376343], [1767504578, -84321012764779275, -853801903471912987, 390023356, 67154263, 428731196, -66218279, -125688015, -239328348, -188673034, -122805732], [-467277816, 17304462068539269, -31630337708156829, -876944057, -10500671, -881530430, -471191153, 15377277, 144471953, 17753042, 183816530], [-1114083937, 1079944383384860, -1412128570308847158, 311708413, -499519314, 10227862, -773259342, -68626215, 96605131, -17199691, 55320006], [1023437482, 445147200664050, -1429086885297444835, 1002341701, -30359617, -364213946, 339443953, -37768354, -40778045, -97420944, -38690826], [1766380444, -30152170474616364, -269144006122556077, 619370873, 439745553, -133142439, -98540481, 55445257, 134825903, -74059747, -125079071], [-278193098, 69279428180873901, 196804834068281301, -123741064, 617187495, 178984215, -168920951, -44911136, 20280392, 174694365, 159238927]], [-20278290, 49909461, -985256144, 4127878104, -3563062049, 3770419038, 3376775991, -1913151855, 1639579345, 2575800669, 522229502])
theorem ok_ctA23 : okA (23) ctA23 = true := by decide +kernel
def ctA25 : Cert := ([[-526810184, -71257243578249853, -25493532942753609, -442609485, 874261341, -963058772, 75743411, 79580479, -277344251, -30343566, 124449292], [286559948, -27717931243392639, -1081151206966932221, 385116815, -29304671, -97616084, -382557009, -72162879, -286566519, -178398766, -79689332], [-116201483, -52557165846618026, 1503027962966059181, 67913786, -136737297, 311247379, 609825217, -130913482, 112385878, -22401044, -195916565], [-1130924626, 89674236324995143, -2791128352049851612, 101290494, -99957620, -200141801, 598682420, -59599492, 15314226, -310534221, 37224975], [131438198, -4193848945573995, 263542020610672313, 286136571, -231670157, 635964709, -219277699, -179583936, -38542083, -36401755, 285509133], [-1799181512, 62558202603325961, -1921801670773664520, -76448979, 198058664, -208920906, 697100760, -113850097, 71431963, 35067432, -228346650], [1440310687, -702168761223600, -1106388602610342973, 108327386, 76280545, -857179966, 1215856239, -113672591, -65265994, -26172991, -104064942], [345269980, 92828054102499714, -962235997071601523, -439921808, 326595727, -361547, -112706271, -170195317, 30282256, -157606611, -36072163], [1112675996, -98088975583381562, -12160900325469494, -168141270, 370811822, 281122732, -555107150, 7935006, 36516582, 51183428, -22002164], [-284966110, 55237877826064079, -586849831715345904, -432473065, -331508048, 951125161, 169152592, 26600858, -32627391, -76170535, -30315343], [-932155810, -22047692660825772, -440046514557867756, -253643936, -857199140, 29910372, -605087004, 16938422, 6957984, -10293686, -57824380]], [-2478215842, 212322132, -2030218675, -1101163146, -1181683946, -3526837153, 4035769167, 1760719512, 2069589099, 1019611261, -1047132312])
theorem ok_ctA25 : okA (25) ctA25 = true := by decide +kernel
def ctA27 : Cert := ([[-993246936, 23674008313394856, 1604560953862824084, 373089548, 38670428, -348705619, -280264604, -348893003, -223836204, -15387171, 71002069], [-1445985879, 27786011101220432, 127378343142378806, -990821881, -131302318, 928619127, -574512306, 225288024, 274843857, -88483160, -64617617], [-72875872, -64140238034457179, -400549934958847965, 863839863, 1384604417, -914663935, -478316465, 51751360, -36818463, 105212469, 87272137], [586089541, 44106686180357972, 374003975107531123, -300344348, 99860849, 138141039, 23031007, -171688040, -268871492, 18050604, -200312793], [-1774018957, -26755000122310537, 503221844647591456, 36011791, 977746784, -681654982, 721187488, -68373814, -129067255, 145037361, 130482826], [279946669, 30706251085620406, -359598191546610903, 273118419, 1098737475, -405054100, 200892077, -45809445, -89745179, 20479985, 242977228], [644383018, -47664439553022604, -96291551086229224, -166840466, -332533752, 816843000, 203713144, -76227074, 200523074, -138023758, -28185928], [1050883942, -30670259542190403, -380262235139205144, -252814464, -391333128, -485726687, -95462776, -29523570, 46321792, -277309285, -151137303], [-463596174, 20299924563348869, -1870877478022264196, 258806075, -573107884, 311867389, 131495148, -108364370, -39074115, 174689283, -93910619], [659264177, 20056530519463487, 571380995530215111, 1483632, -86069747, -384950655, -230578941, 18452671, 305611280, 21609582, -31123639], [-1334473189, 5481542189117109, 994917330127826470, 440535907, 546578082, 231121395, 301738494, 34484829, -13783851, -96817950, -46509109]], [-2496036453, -3202649324, 92578294, 2893681995, -2664832214, 1124682556, 1875637969, -1986547267, -3237031694, 1366249387, -2310020460])
theorem ok_ctA27 : okA (27) ctA27 = true := by decide +kernel
def ctA29 : Cert := ([[1864009264, 9631080184240162, 1152722917901203553, -198596840, -287099733, -979568057, -200132155, 170198377, -67437912, -311456597, 194346431], [-2418826898, -12493376340152174, 1188580129170366108, 227615833, -577323340, -208707618, 463738252, -21101754, -45586481, 245252600, 31685966], [992545862, 6123753028318074, 1742436028812695395, 309627418, -156779839, -546941382, 621137039, -193495902, -55287690, 60805308, -82060406], [913106564, 76376433003289470, 2045524727800408554, 69122924, 187249166, 143540249, -666809262, -137789429, -13055884, -9341335, 74504097], [286392145, 8284670068701961, -2427635452496805864, 23175100, -220869368, -648621808, 902864248, 220527366, -129686364, 7620895, 65037712], [530384935, -26232922188037140, 2141037649752428688, 87746249, 862158384, 637402316, 4849872, -111468545, 78193375, -53837653, 183774252], [-811183732, 14581800896552767, -465696175716658135, -294301777, 280660547, -1234006714, 452471725, 200050965, 49317737, -70152764, -39009290], [-607351372, 30909589988893419, -97310798237077543, -1044396597, 10146515, -569395106, 185253917, -84639791, -23663443, -62750484, 127597006], [558970626, 22142164575801100, 92867370617369708, -777222756, -326019420, -317888431, 657606812, 138152791, 93757892, 76216611, -49853543], [673643539, -13050281228267078, 493223561990790818, 233901242, -134278666, -656432507, 116088042, 35837090, 132247254, 156060412, 155864685], [960650974, -18394545393055429, 722037851273818402, -565789880, 232758646, -165259797, -314250902, 144223712, -95446536, 62947915, -8027773]], [176623792, -3721681439, 2298652560, 129535545, 1222867869, -379282241, -2714991836, -860026808, 1455937536, 2194884342, 1612936341])
theorem ok_ctA29 : okA (29) ctA29 = true := by decide +kernel
def ctA31 : Cert := ([[422720226, 49742905024559033, -671046445976968651, 30290786, -823014713, 310982648, 260980841, -182813039, -317604754, -71136166, 125030840], [30978703, -7299220494578468, 981275451953162225, 79292823, 100534235, -12259074, -386501227, -88621679, -346442815, 173018669, -109383826], [1547893130, 41997969491273244, -651671185935811129, 476472809, -1036782835, 324215581, -538382333, 79511571, 186796223, -64659985, 218604997], [215284873, 69934332004713229, -2555983947346667915, -19916796, -253400697, 424176184, -478773847, 251133076, -109459044, 55282929, 31671800], [-1084911422, -53659415895479561, -855547341222945297, -173487795, 1311975621, 237023538, -564499509, -24403299, 49505787, -56206716, -49272766], [-1560701277, 29967025834635245, 1280744480283358817, -660564134, -572711253, -120500250, -453021755, -174635636, 148354358, -42286903, 43127702], [2362180714, -37514276464015240, -1361425014070089661, -97762727, 136619105, -452082869, 227001583, -86003083, 144800207, 130764397, -109321757], [814315734, -10166630005090931, 255752680965675143, 77932041, 435272013, 313142948, 360046019, -230247619, 174232991, 165985818, -60707132], [97624872, -7897839379448856, -1527554563646998063, 740224826, -257803141, -291098406, 40997621, -145051286, -76804010, 156602322, -65207510], [-1668278425, -23379893198761445, -428167034645863690, -906638095, -270857326, 433677523, -350250994, 102725463, 17628407, 33165986, 29152683], [-8480839, 13002306968299310, 607056353405059701, 353198468, -592687737, 111427635, 153278889, -125479354, -160539620, -94811308, -188967925]], [1130319542, 2324199518, 2318659300, 32201787, 326403748, -1204859577, 4375989464, 120439934, -4474757872, -1666593278, 446845448])
theorem ok_ctA31 : okA (31) ctA31 = true := by decide +kernel
def ctA33 : Cert := ([[2615270620, 36555578024250618, 175187200310569944, 358726303, 415125064, 691454617, 540426296, -171239273, 57085433, -78471631, 127487521], [-956798201, -55626402424323539, -158239959129713728, -1041278171, 899922240, 721841767, 26471104, 93238579, -370748445, 85739184, -329897249], [-107123792, 57431828556504351, 633009171508971535, 507679640, -240433115, -638099389, 817445483, -82348614, 325460520, 67307081, 97714331], [500061183, 52625280618361412, -180254697649556023, 1331509165, -445002717, -917386265, 16129997, -164465390, 100585115, -40344170, 36213855], [-628083074, -59289724623896907, -1006528064552744634, 36248574, -374810366, 147026276, 502779294, 96471175, -303418574, -96546036, 22681476], [369458911, 19732183000986099, -378747517602516991, -417601148, -389486453, 409478033, 59988965, 146639467, -293137380, 111886094, 31019225], [24687912, 20797107118394559, -360612796217564992, 812881777, -1080358848, 187867111, 107629504, 43993622, 201160311, -72559547, -42006433], [-769795729, -13811986148282067, -2338271639128654383, -429336082, 797960315, -155614057, 179152629, -55906613, -176218430, -94593208, -167684465], [-699108521, -15041132647693001, 719829103614523115, 97860933, 1095326105, 379591495, -57272009, 154643533, 41275075, -195657100, -55679297], [1362551552, -3408138109438826, -184001836004844156, 700987080, -117234004, -328151552, -152513772, 39742646, 121916024, 248621484, 126467584], [-1947133641, -1117581122850767, -735424945306285737, 393829280, 241383997, 402558577, 211351507, -51416319, -189735584, -66630462, 73054905]], [2960999179, -85476743, -1576115045, 1378621586, 1572885321, 933698809, -354584276, 597310450, 471567170, 932751055, -5101430462])
theorem ok_ctA33 : okA (33) ctA33 = true := by decide +kernel
def ctA35 : Cert := ([[904616055, 37567472037072608, 265889064726266413, -843197843, 954279535, 977437712, -122764991, -293389097, -206368293, -147789385, 18608272], [494416852, -50868872315824672, 1017370283793794020, 845874963, -65127220, -197400633, -65796364, 179459315, 59273381, -108365613, 54785855], [2072797136, 20020174051431216, -497397307656653782, -377314224, 95765198, 1014295161, -606423150, -109400479, 78814256, 99445905, 6429953], [1459525852, -812609617893303, -895867104735728195, 119984995, 969411999, -165596420, -102160111, -216973661, -176544555, -14733828, -181897252], [751120362, 30559061871527706, -231911505040804370, -536963162, -588064710, -1100398357, 24508390, 125043195, -122932278, -191777867, -65272701], [-620310162, -52280244705710294, -806059700577542441, -897318895, -370252099, -135576457, -396020909, 276183771, 64786135, -140542555, -59998865], [-381028913, -12019997578995020, 741135971966555799, -624725487, -396907523, -218059323, 645091859, 178297992, 150170839, -265988996, -82762835], [1093694495, -23324443331422320, 834313860116771153, -219650017, 1094442747, 532396478, -66701195, -27176019, -100475783, 199494717, 112823854], [1296393076, 9644389291758122, 873611217243044939, 181485858, -429505351, 879454111, 316213271, -65340887, -172342098, 163696627, 63027159], [895795466, -496485435127520, -1273291657555515891, 214063080, -606936817, -790372287, 337131681, -18368365, 49323608, -695373, 217659145], [814955148, -6765672902114160, 1490151329102881143, 6378472, 144790429, -182140343, -359797645, -225306547, -3669416, 93277661, -136589487]], [-1346220173, 2003946450, 4230266182, 2445990762, 2288546881, -1131169970, 2347336989, 1764272296, 1135673326, 1560602587, 11312769])
theorem ok_ctA35 : okA (35) ctA35 = true := by decide +kernel
def ctA37 : Cert := ([[1485136852, -13531753475655750, 1827925170647980100, 1213114399, 387042540, -575375356, 487252180, 6253114, 136748153, -133896556, 10930980], [1507125369, 26478557640262684, 838463038438330166, -210740834, 923046482, 92145478, -693998258, -112625909, -209650030, 20566759, 215453174], [852578092, 65610688179077225, 157405129100739854, -155902877, 239652506, 766118135, -878239866, 39006552, 167871445, 36965073, -111753745], [489397587, 26133251153789078, 720512705194584919, 1224462721, 466825277, 733256892, -1325932077, -28463507, -123907353, -145721501, 25526172], [1478179963, -17464993429062508, 1033288001332671467, 720708960, 11450521, -253137019, -955028937, 121250812, -104003168, 14011344, 181420909], [-259573266, -29695476016328477, -1588743993571876073, -577371068, 543503741, -347930343, 1037648019, 149398574, -92416164, -27033919, -192913247], [620946509, -15659704524880614, -480991703241965964, -471911439, -134231812, 372037864, 706632132, 3626087, -114463241, 299377697, -163647960], [110780828, -45508735823031646, 63874697593111628, -647007125, -512019132, 173248117, 658168828, -87545533, -71618803, -36007163, -231977507], [-1076356363, 43672572599110625, 1441647330913430968, -140711549, -665578776, -270885726, -278082152, 58238732, -38925387, 100274045, 39174962], [1244732728, 15182282806298255, -1295859958372586152, -326408259, -848798008, 135035730, 668391352, -66722059, 18130187, 51515380, -96576670], [343046122, -28583784091829015, -1555920075430359117, 61379012, -159576527, -702961520, 338844703, -73734377, 6342108, 65111312, -190211824]], [1666206049, 2017169929, 2383578108, -1366949313, 3663226327, 714568244, -395542333, 1434377875, -1573059970, 3833694954, -113533580])
theorem ok_ctA37 : okA (37) ctA37 = true := by decide +kernel
def ctA39 : Cert := ([[901415550, 54587549511212026, 277193963934171995, -314990893, -531735959, -689000003, 52447591, 98514617, -245006619, 100514643, 324608357], [1597969542, 70259051299092476, 1792570215226009655, 645944961, -719979043, -929898148, -673761741, 47660870, -48835097, 253705474, 214950204], [306183438, 4427902087583070, 1806058903534135885, 411338961, -437440561, -710214519, -813644319, 98037873, -94792681, -40161617, 347114385], [2293562062, -7555525720252136, 1679603596523075547, 1155843532, -369435671, 207707553, 406634471, 352408511, 121238804, 57582167, 318908265], [496495297, -22056372631860992, -448803511945321755, -532021605, 282241623, 398178870, -462656039, -68413833, -168146851, -273305737, -148714394], [847204352, 38139318055557126, 3280469226657938197, 123921492, 90344551, -210529907, 379052233, 241001535, -18055732, 119526309, 171318197], [1181932796, -7275231928572844, 1996351116466248877, -113819519, 226052591, 1268584868, 574109121, 100280588, -67175449, 63296672, 167897540], [1688118776, -34203437228524037, 612330037289850365, 285391975, -174823329, -1320921623, -330864047, 66565366, -12778127, 63597089, 126433265], [-1392327508, 33555190875528627, -1468646384062369538, 24415203, 889858538, -50683909, 241483062, -197212780, -125607851, -15433225, -51517421], [-1355293599, -14457555084586047, -777382440895352628, 208146768, -220897596, 97004002, 606481020, -157157510, -93751504, -171420213, -201938318], [1252054332, 20648145806762996, 1271658053661247628, 108617796, -415661052, 287629438, 373254460, -4997674, 148364124, -39980278, 226228974]], [281170239, 2706845281, -4771761826, 1590949383, 4442560133, -1117357923, 801300062, 3487608781, 759223768, -1103610831, 2513981049])
theorem ok_ctA39 : okA (39) ctA39 = true := by decide +kernel
def ctA41 : Cert := ([[1012295406, -47174630653766103, -1092058150179134612, -795783110, 658365348, -10896345, -997829732, 62409742, -126281898, 184596295, 225261215], [-2777720905, -62756397526356501, -474487244905867349, 257956092, 387785177, -161081138, -154950409, -192446728, -42865308, -90981613, -148082242], [-2098498070, -39820224048655106, 713744823027558050, -289384101, 901048822, -649162134, -548338454, -81660206, 175033245, 180092592, 64609594], [739967280, 50594467311932277, -1756642782520296472, 849784408, -496843016, -755468470, 377556616, 202506071, -125639320, -123008356, -20049638], [-1443738124, -20221476558536202, 446324917162811062, -834381077, 177355986, 361041243, -589460786, -58138515, 77065357, -8408893, 333400179], [-1580829196, -39893418440080550, 1276698448713319018, 223578201, 294797198, 54481557, -267323694, 55299643, -140598321, 175775797, 125684477], [-635363743, -68349708313155839, -770400616890510984, 742177430, 655883304, 164031151, -33585064, -143682479, 180601434, -6579742, 173662055], [-109787425, 22074799569817697, -1110050064248058441, -101573611, -783345059, -320774845, 882934195, 128047299, -49679245, 75435444, -132209253], [-122254276, -20900993056899339, 63302029295512813, 78863779, 588684463, 222521997, -4522239, 122390846, 223855765, -202393597, 99318965], [-809393063, -1492740205684346, -1419241338809037227, 408222498, 318980135, 357929460, -349136631, 122300819, 59382446, 167867001, 58321044], [1026329506, 2127495468454029, 871270009191975802, 19654515, -849974466, 66601557, -210435550, 101678948, 36026181, 22902081, -114751299]], [2346719899, -2648648114, -675436662, -647789492, -2974083887, -1244571547, 2144920369, -1016945528, -210363181, -2427565343, 755348729])
theorem ok_ctA41 : okA (41) ctA41 = true := by decide +kernel
def ctA43 : Cert := ([[-479249285, -15411123463365225, -1102602275089000924, -841522537, 1087055244, -33883360, -434628044, -59953736, 33383105, -368602561, 83864608], [287128815, 8772126332122018, -346248116514980740, 1092799378, -128010412, 399572059, 890547948, -28720728, -253986882, -340206486, -98963597], [-2092563158, 9968713618106764, -1102466946475392090, 572746789, 234326818, 780939164, -230414978, 154933386, -10376477, -72169258, 63918460], [-412455130, 43807839768236774, 827369607574606174, 657079687, -249528822, 363707110, 587338518, 296394078, -47515311, -310614620, 28186262], [-122175591, 22458757181761007, -1651928311442743864, 293372608, -667374696, -400166325, 14777320, 198182465, -47277248, -91032416, -116078365], [1493861456, 14840087741570434, 1119892125995548345, 918180389, -178706829, 861572143, -385192323, -60429459, -12045085, -89326065, -109466393], [-1594268377, -23710088868451545, -107386950379468327, -141962813, -575573805, -206834861, -535854563, -146982305, 222395765, 161344886, 211335211], [-408921279, -7134779140120282, 1222122284300261783, 638124690, -209941251, -140979586, -983580397, 116770049, -80439106, 83435399, 109903086], [409436260, 25981894027890110, 911536433513397727, -457267926, -548732907, 584828770, 94129531, 66634272, -178404378, -149360962, -33336334], [180641560, 18952446340838763, -778793807656449091, 25574602, -63940705, -286866824, -66715887, -235992615, -26688186, 137545076, 148869176], [293089911, -21451202455782820, -1470929395999345896, -364579247, -137642488, 249753460, 368114808, 39660655, 36807319, 55165579, 136204820]], [1051074242, -1613276661, -4219011233, 1274681620, 971229454, 4093982912, -2848704141, 1497118722, -1506552754, 1495234211, 5223817790])
theorem ok_ctA43 : okA (43) ctA43 = true := by decide +kernel
def ctA45 : Cert := ([[480841783, 18214592153720408, -651687020004816854, 74984132, 340041422, -28894378, 596384658, -9605915, 279925980, -19602243, -505770362], [-115331580, -1932937099378560, -272514911337336454, 379354664, 541412670, 376383932, -56442846, -194588064, -85458408, 218602208, 181548188], [-1397084705, 39149247210124765, 631930953674389681, 621386995, -514531301, -938393523, 642117973, -69730323, -33178171, -66734054, 5722229], [-209985731, -23679048625776936, -1072035686439998692, 261998821, -168327116, 653647249, -663043060, 126496926, -293405661, 75395318, -12035367], [-65314362, -4681061291043274, 476936799605502895, -372864479, -147179515, -1108475727, -477634421, -219473667, -135095481, -13426285, 78409465], [-142679259, 14662270867751093, -1274720688504228776, -570362367, 311012296, 168556561, -758342984, -96886929, -153943449, -89420812, 199043417], [410052633, 21249337276568780, 1148705720154929430, 515508872, 735284978, 251522114, -118930770, -94607529, -215057224, -119613725, 39962578], [1080095398, -32227188553634993, -882325179060013463, 926072135, -375708925, -605534449, -209744147, 47500256, 76832657, -15055457, -43456825], [-669614078, -15688348372907403, 448412355866635505, -82426579, -259277093, 967724137, -307302763, -218644172, 98516251, -31837319, -102382991], [237412167, 46213086673548766, 1208626468442651475, 10616798, -16761327, -231354079, -417283521, 6305734, -5447086, 81239684, 143578857], [-1873758924, -20421710219417059, 111535890360893553, 103815796, 61478235, 229478912, -814538731, 21129885, 86918316, 28343050, -3169792]], [81304086, -673929738, -3520589330, -262692581, 403370097, -199489091, 610944052, 3076068284, 1223961921, 2829891920, -5298893478])
theorem ok_ctA45 : okA (45) ctA45 = true := by decide +kernel
def ctA47 : Cert := ([[1913414189, -109142600026678406, -443746186802295341, 926324180, -425522799, 330618449, -651424065, -50878820, -89855924, -6249802, 133474713], [114770757, 23112539622023991, -1169808370937381883, -419074080, -722547017, 826118869, -33568903, 179486011, 112132896, 161337698, -161006275], [1488905620, 21632188957906574, 1903885694753614891, -672229615, 202261337, 189845715, 619543415, 267501489, -25735209, 68504095, -5201493], [264029284, -19434180402301455, 1977928149920871964, -155377470, 142524724, 951938781, -444048628, 85041112, -123847154, 21085017, 182722437], [652399458, -28609259485677005, -519423701944307443, 424665354, 565271055, 987710209, 282234785, -8662152, 229366534, -17779621, -84099127], [-2585282188, 12886012859641202, 339178462638546672, 176752751, -1011823536, -378286334, 291273904, -130523116, -56238935, 20568486, -90976110], [-1550416629, 37829798901409561, -498876111031737643, -654239102, 503505319, -428345984, 928247689, -48985470, -238699954, 9842091, -30031488], [302749001, 12942744253572396, -770876379591978023, 923365457, -30138669, 306426627, -165858275, 138260424, 151959703, 160736692, 52623707], [602194936, -20128313551045478, 302624503606431914, 734174264, -977781682, 750999917, -171035118, 3262387, -97609080, -151927059, 22383253], [2440600978, -14483927916692631, 363541413366906204, -65355912, -608800524, 638072126, -49490100, -80930025, -21051064, 109174672, 61113774], [-382386699, -16009888070418592, -830173809467488769, -312523847, -554210955, 2344029, 336327195, -60621782, 36833135, -47373942, 163791109]], [-339130969, -1070769897, 1077285829, -3083384016, -997363783, -3079932333, -395719988, -312667816, 1376262420, 3828302446, -1113635384])
theorem ok_ctA47 : okA (47) ctA47 = true := by decide +kernel
def ctA49 : Cert := ([[-359288907, -37493116418203905, 2635998290309529122, -154059018, 500952182, -69217293, -458864022, 280422223, -123206406, 206522302, -200632885], [-1136584002, -3255996378670737, -2122780760279989519, -86626394, 168767707, 545041468, -555410283, -259281687, 36330442, 25675464, 38251292], [-1285605397, -44658832855340685, 723915482391092851, -518483165, -333672335, -905442892, -369340961, 45991522, 62671637, -41162107, 53538388], [1661989034, -32668039675713380, -136559999896072644, -624137754, -101016940, -393001794, -1093955668, 80525460, 904074, -44334864, -25054930], [93861312, 6312800160228706, -500296538856128570, -598470997, -45977470, 508564820, 510660126, -149098090, -91799859, -25445864, 327454452], [1758495547, -30479356966798857, -896529104696384003, -545724605, -324741025, -837528350, 19528273, -378146476, -148954123, -160683973, 80768370], [257330994, 15384472240702043, 821897054228651604, 705959424, -52144228, -56266329, -132956892, 108513420, 247781888, 243496983, -18565089], [-444889964, -7283721180142861, -1647089977855771278, 1060682670, -245314330, 570521031, 292445434, 104479814, 3207938, 132444649, 22574399], [491353580, 34474019062825622, 411839712584081575, -583172474, 214180525, -446893735, 245334627, 135429027, -63825942, 207988377, -102300959], [132366435, 5681346835742976, -300830112682628820, 24618328, -627049756, -760325959, -746735524, -168990316, -162642328, -76449132, -29708991], [686876204, -117906044358725, -527704531540652356, -45205917, 537255956, -1220012519, -485326292, 17944712, -93652523, 71005043, 74571169]], [-241181851, -2328956861, -3778417913, 3585516764, 297944785, 2787825998, 1933177886, 295941947, -145361996, -1362868990, -215376268])
theorem ok_ctA49 : okA (49) ctA49 = true := by decide +kernel
def ctA51 : Cert := ([[-1016407836, -34977530041384861, 1316058667775098479, 1469833192, 678448709, -340133557, -425361845, -105831984, -323594664, 56861667, -62240797], [527340706, 47177463525977860, -2718823237937983646, -129016497, -669971914, 227641141, 5879978, -130296725, 35193545, -202986065, 9411741], [1284174044, -3627263273342260, -2246108029468952209, 415925072, -930359483, -528485873, 166184267, 43059783, 160781616, -75452461, 59386311], [-142353419, -45654611734125074, 1051039136191975326, 235361681, -115127606, -130454240, -53247402, 143245487, -396364457, -20250499, 34549280], [-1144264827, 18515230137864651, 171546776245535121, -984732808, -520605253, 105482621, -300285515, -23784133, 231685448, -13491402, -289175771], [2145804434, 1540673287664844, -1833381011763118548, -237492358, 100753892, 462580006, -333872804, -171428372, 45330966, 48645496, 33285846], [452955132, -3415491397613315, 1213043451292053590, -1280722201, -657027406, -65373996, 681275118, -220819577, 140602097, -49619756, -18174348], [-286424868, 35510128866759708, 1398956645289557478, -1005610842, -117838878, -875801936, 97534142, -55664992, 59480778, 96471676, -125981648], [-436511931, -2208073824234429, 1634266700186152972, -731124129, -746523004, -348125301, -395886916, -77175199, 35643449, -36656556, 231503907], [1257581522, 12361530658623353, 38672269576743391, -138148163, 625206293, -415559288, -424236677, 80213893, 164929035, -106841842, -41950264], [514264799, -7023491946090761, 1342805071858527658, 471261246, -352715954, 543952694, -76732654, -23480070, -88725262, -2280223, -24540826]], [-1307180986, -641349305, 1614317668, 1550428041, -2080837712, 3104439590, 706576917, 2468611126, -1568800035, 3106387040, 4583451988])
theorem ok_ctA51 : okA (51) ctA51 = true := by decide +kernel
def ctA53 : Cert := ([[1949923586, -48544627844435708, 302719765972608932, -1234422132, -404511220, -254155558, -560119372, -18838048, 4084308, 70650148, 349994], [-450080883, -60368740001850967, 1405925774214052203, 841997809, -716049127, -149462855, -671312457, 13797675, 15848439, -101978140, 30537025], [272054344, -10606977058094149, -1698165712841762457, -343364978, 315601645, -730492637, -1097087453, -223072790, -70185182, -28252971, -31006597], [-1529939673, -37739846865114256, 458816800590451644, 50903828, -310929644, -590513840, 942078764, 167270999, -44309236, -84077369, 83066832], [-1293290962, 32463903834371477, 793803152118372718, 765229027, 152231610, 723472807, -414221978, 383357078, -67939243, 40841211, 1415199], [558980037, 11041588897739358, -471849578257644051, 407237414, -655249489, 787443491, -188294143, 44871590, -130153398, 214424292, 17706619], [89643734, 40171591534788532, 102825358668600371, -645993686, -25002063, 654946768, 185655967, -75095926, -253104666, -91910786, 11394128], [1828872049, 8510270274759105, -10515595060588385, 26547985, 629337685, -236894155, 361993019, -233684701, -193671209, 45061492, -11393635], [-2050417496, -25605201497233663, 1406254386738361729, 542369408, 80258315, 274681247, 59246437, 10380804, 16104832, 139668373, 10046935], [-368212299, 3010849150543530, 231596646742215954, 533636370, 121669830, 70478210, -395315430, 130624425, 114096702, -58057229, 289283858], [-960811215, -5167977934611719, -819230479316505849, 416896496, 553338061, 694186235, 175532611, 86060657, -31386736, -82775174, -12386029]], [1769189865, 1320198857, -2784226807, -1489275209, 646547360, 439285784, -2158130858, 3557499889, -4373193182, 356394234, 507545425])
theorem ok_ctA53 : okA (53) ctA53 = true := by decide +kernel
def ctA55 : Cert := ([[-319043969, -18506474413997914, 3156207920660304662, 640332616, -115233550, 247720661, -510753618, 34696886, 113795576, -238001988, 21124413], [-675222924, 2140703092702446, 591692904645200940, 191622990, 887274468, 1060771700, -918403236, -35426550, -93865886, -263850536, 103594516], [621672870, -20554857704792574, -1213438851524412455, 267760145, -315582765, 873178567, -668058595, -3330285, 36383959, -147666379, 169354559], [-344260491, -14851268185874313, -1689244083849680280, -810191242, -87603592, 445442791, -191961336, 131825029, -29992582, -111115540, -185603233], [-1469723152, -24380632469425347, 524029756499143666, 91849194, -664040346, 95852474, 1367995770, -1966779, 124949798, -80922414, 13977866], [457148274, -20517181052859889, -662205787414587565, -950182793, 661991953, -136124297, -818672065, -228303926, -21763103, 52445257, -51625617], [-1608287177, -29095287115659649, -495033647250551187, 718705669, -607613649, 358925253, 6928001, -270835859, 11908611, 272457564, -54629971], [516842546, 16095694472195103, -914812007718254849, -144326151, 121402485, -780007770, -25995493, 211583969, -289352913, -135605392, 12882006], [2008545726, 23054704070521616, -1197155741743216619, -352231051, 519314279, -473697004, 80216521, 3436866, -61219309, -140214958, -172606284], [2005430378, -1155391593563122, 451985450873765662, -861412687, 569972042, -53290239, 162562006, 118547829, -144589513, 138079587, -56682551], [-185372336, -20509810688188622, -923029936810564824, 484700314, 436147896, -150756823, 133360328, 500511, 180002294, 122210929, -21686735]], [1430547142, -2010414838, 4235333486, -2232318884, -192291811, -782696234, 797238202, -1075673479, 4262199945, 3691119590, -509297530])
theorem ok_ctA55 : okA (55) ctA55 = true := by decide +kernel
def ctA57 : Cert := ([[2044041340, -36967437867077188, -2257752295369892338, -163224783, 241410458, -1400732453, 798964870, 115589579, 29651127, -182078137, -80733197], [-416902001, 9089135608382061, -659657776097619718, 987567508, -997677122, -965689791, -209769054, 8210781, -157266292, -222445798, -36993783], [391533846, -44373466380558038, 48679640508959041, -20644224, 333373003, -32313736, 988901925, -174726872, 154559872, -66144782, 79567928], [841086906, -7696655732712768, -187759013851253079, 792087283, 204686787, 146848673, 1331202093, 63766531, -76562491, -110205245, -115673751], [139376702, -30213324967434131, 1812381247140361623, 813552792, 201113853, -991206490, 346803475, -46021111, 54872360, 107217350, 9606486], [1295921063, -20181234420798766, -307267963483970480, 88912233, -47630480, -578779723, -295965808, -80166698, 304523583, -70107704, -142643427], [-130525492, 389866763695300, -982397551598836750, -443434624, -790694810, -1122559237, 228527482, 101770627, 191734400, 31359111, -74024173], [131275002, 32274316682262839, -1450521188499362218, 455146345, 520124594, 390459729, 291022062, -160625054, -52400321, -94087031, 61791385], [-1985064099, -2887779118582665, -636975864054841835, 149824534, 47099239, -883306875, -515829815, -124926263, 24196314, -116694992, -177808787], [-91925374, -5783482124819666, -393905440832772302, -64501633, -679282650, -992615590, 78476730, -138069270, -175791335, 90074104, -114677334], [253504574, 10410738743874378, 481547517538826896, -394321239, 446237744, -478621733, 455791312, -23838037, -17024513, -190481515, -65208589]], [1266943905, 416237236, -1958893865, -747954498, 482056, 4570109951, -2517176190, 834031561, -5504157223, 2469856843, 1447634642])
theorem ok_ctA57 : okA (57) ctA57 = true := by decide +kernel
def ctA59 : Cert := ([[1453207112, -19890719679840834, 650894027909708534, 385669181, 1489605522, 561361301, -476868594, -115867857, 3991691, 8084429, 9069053], [-1063725599, 8378759446220623, -942430664482727515, -403526696, -898014057, -196279537, 953722777, -71827971, -368974872, -102868036, -84901177], [211717010, 12417412295658284, 885358915779137548, 762924993, -18262396, -276871222, -1648566596, -174594512, 51191463, 73310748, 209307034], [-285697555, 29308977686209574, 455413989337604379, 113674138, -594329175, 315189862, 1571513895, 93083637, -107127050, 15033723, -291970538], [-767894755, 7634325894674921, -172470563805809737, -461049514, 211450973, -141083258, -606486605, -379484730, 25676186, 20115647, 226764342], [1383929785, 4372123098320589, -1954246460155604965, -378102518, 116836009, 1005059476, -243764953, -122737300, 52526854, -89938551, 95611188], [-1923836213, 8784032039246694, 552984273244461011, -496496309, -362607, -343600418, 86048959, 322367531, 78204205, -225294095, -34011058], [-1649619739, 9121028497032351, -88377039336475304, 195706461, -292948280, 690483955, 398245816, -117090123, -181272725, 276826308, 17231051], [-318930798, -12545446723147127, 239187728947917097, 126852434, -899266237, 720261066, 994909357, -14418417, -46998530, -76483672, -70840934], [-1590760060, -9124586067355501, 798160169376298242, -545485564, -153651178, -178426507, -1007533878, -54377966, 42261660, 134960981, -79141667], [-901793036, -6231850385336896, -1754454123979871540, 377548301, 246717636, 80564967, 66342012, 113418707, 185610043, -74157165, -132017313]], [-979170050, -802363636, -493874638, 642845123, -2339817153, 1789545891, -3212044036, -2984945699, -1331577355, -478999992, -3039434553])
theorem ok_ctA59 : okA (59) ctA59 = true := by decide +kernel
def ctA61 : Cert := ([[3456077632, 14648707996818386, 870232851996427022, -330678444, -753780582, 976195126, 840750470, 103257680, 316283596, -25684926, -236699546], [70002235, -882645173947444, 2960000096788316481, -504952259, 898532939, 576056906, -10597851, 63716385, -167311733, -48842067, 116162586], [314544829, -10397570265458332, -1581388419430466125, -658536454, -682686415, 665678814, 1031569951, 122265391, 80709014, 85965011, 206647630], [631274305, 697757856813534, -1280211587834149079, -582578530, 24345411, -590428645, -1119515987, -49221110, -94875246, -103074616, -159623373], [631685747, 11431712312065570, 1322368779202677498, 526714063, 93169086, 1630277520, -248279134, -25328851, 151742281, 14880879, -6785008], [1261624271, 28461335245757912, -1683687515268167872, -437219061, 144617408, 86547213, 525171776, 56777132, 76723053, 177344772, -164589259], [3043035584, 30330099829902569, 74950342457729337, 453286418, -267312653, 284670907, -240153859, 4488168, 153783614, 24537569, 22000083], [-1902924657, 10175424810149406, -741001872955275725, 146668847, 243328433, -634055288, -97231713, 1817485, -73771543, -240486773, 6096840], [-1375266349, 14829861041520392, -123222693499336607, -242727989, -168729429, -303933340, -410842683, -291441233, -63856979, 48273719, 35223172], [-59686230, 9260465984328296, -426700579882744305, -5725582, 214741541, 439000004, 72806507, -70410250, -278074402, -29098786, -114303772], [-608832683, 5599400525993416, 1048407422218914570, -266146689, -214126994, -368910192, -118436366, 207327773, -122609895, 59136101, -89747184]], [595562551, 1128673458, -332624577, 852113345, -3168333358, -1035716181, 3452963782, -2535873339, -1813641574, 1649137597, -2390362464])
theorem ok_ctA61 : okA (61) ctA61 = true := by decide +kernel
def ctA63 : Cert := ([[125090181, 8315264173715142, -3968882936415663169, 801974182, 374687925, 695418600, -151808293, -45763945, 155722698, 50054333, -52624344], [-46900582, 8682790169161763, 132217576984793614, -278498781, 617733530, -262721673, -55066490, -136013290, -200735723, 67135465, 221511791], [-1043813970, 479941501902471, -2233480792544147534, -633571664, 1159191974, 53194692, 307021882, 126233147, -167165744, 176404146, -170356508], [539703493, 26245255819482280, 1559990879873477874, -385170789, -658073754, 432713936, 482040442, 183481469, 27862109, 109860773, -116255920], [-251861475, -4163306857015042, -1819458518566468621, 128168829, 511978737, -62543687, -1365304993, -238019568, -96919733, 581347310, -45580991], [2713279669, 7176389175820485, 144397367647972679, 228814482, -181633651, -362069189, -205574781, -105169341, -38400834, -415755304, 26416467], [1510922443, -2019940886569564, 963439901617897774, -349236, 325858298, -405049061, 1931642918, 103949706, -63340780, -149788818, 41589299], [-270719568, -3702011122569774, 344172708999232063, -450033487, 345376821, 640737627, -222744741, -196954703, -31193289, 186475939, -124208013], [-1223014743, 8886849583057346, 1606981264183168461, 432539718, 605386319, 321585801, -660207775, 30623400, -63077334, 189213066, -49462895], [544493194, 5334604780364289, 45677789608088604, -788930176, 1198099252, 34058942, 527085836, 26059911, 60144256, -84273896, 6557486], [-85253527, 17221055979332642, 492888587994745677, 67687839, 12868303, -333257661, 945818337, -58189550, 24832761, -236180396, -57826149]], [515544599, -1174118328, -968146351, 2134142238, 2321346464, 3878353401, 2988861817, 38547253, -433246638, 1585251810, -3846064101])
theorem ok_ctA63 : okA (63) ctA63 = true := by decide +kernel
def ctA65 : Cert := ([[401376047, 13679022629307009, 2127224317642128885, 824023804, 435182599, -64440830, -328019159, 110631618, -54445212, 17839059, -568774766], [2178337513, 22688592800104287, 15723994970652046, 312261887, 639794202, -103811076, 672672262, 277190436, 104333977, -85701133, 102048988], [237193578, -605169734280340, 535182201768774140, -34283136, -281408556, -434829212, 861225580, -160046022, -191710592, 141382758, -224024956], [-1045958436, -6484458255343137, 775586260654370211, -1248628586, -257634431, -318926182, 187397071, -361067, 39255130, 170327780, 288867050], [7227553, -825293124946859, 575475074871322246, -128397327, 112212674, 720824159, 217724894, -50599955, 50016759, 84218386, -469760617], [571767545, -21177764845166188, 1255140721248073760, 185501127, 236337504, 403763371, -486091616, -136441632, 4590353, 49606068, 339477059], [2287284774, -3601020303475371, -489307623707422821, -461072612, -48004823, -492005408, -361136473, -46980789, -82727868, 50537584, 238993120], [35181161, 11474944485299637, 1799718130201848602, -255289194, -1284860130, 311518016, -311088062, -97564866, -33942438, 72341699, 106687808], [-721341084, -18402729876688506, -250179855339704110, -162112662, 92811782, 143059364, 300610010, 185520334, -149284954, 188002740, -134446652], [-654432289, 768529448584824, 260457065475607753, 175196389, 764676387, 550022441, -619842867, -94233928, -174359517, -164784976, -151602895], [-275074608, -20363711273103515, 1476610912640339354, -415147846, -422980962, 74808489, -109639486, -88648970, -107969834, -191172309, -195844943]], [-338642795, 1980090876, 11444508, -2197224076, 2682885252, 951831835, 4705267820, 431592283, -77112424, -1298661919, 1011209056])
theorem ok_ctA65 : okA (65) ctA65 = true := by decide +kernel
def ctA67 : Cert := ([[-649251233, 35920224705846510, 279792486560451892, -1993942331, -74331332, 439812991, -381826172, -49921360, 87567683, 1698174, -169174345], [-598682591, 32975710132441388, 390415327904824924, -538429203, 608320500, -88904829, -813073332, -6125296, -168407205, -294114564, -213068325], [416728976, -2688419148690011, -855307510779385172, 99347351, 437521252, 1011915790, 494161884, 126935597, -158826047, 79397538, -150831362], [-195345223, 9059180977638542, 2609256894472890330, -25575203, -280292514, -630683664, 516572162, 31394499, 46366955, 193260337, 48266096], [-2601333756, 407446067695422, -482346407076257277, -597075340, -574685279, -873913747, -85086801, 80859827, 3605676, 11622609, -213623915], [1938724393, -992668782882545, -730976936587900872, 877687518, -69994904, -419885204, 800752152, -90942206, -25876654, 162918529, 64244684], [-1228485131, 9107118041185959, -104445791054898460, -145024101, 261667276, 66044326, -207644172, -124570784, 113570653, -14257673, -298294442], [325643042, -2819618341873586, -504199443217244056, 640047393, -29927304, -102953073, -861244152, 27460883, 16180295, 281791809, -112438457], [-749442974, 8130381872052542, -378554820194391206, -162730728, 651262430, 368729281, 56321410, -266592667, -228842328, -40292733, 61011849], [1372062517, -31105513468289368, 722824898417453007, 252792466, -540998299, -549200282, 388522283, 58306387, -1364802, 82164859, -150079978], [-110856848, 126200219891267, 43759393165264733, -194056836, 1116157823, -44481040, -170412751, 47407225, -49451804, 93726316, 43886960]], [2380540804, 1817182834, -911758406, -1692346429, -3046440809, 2894458000, -1636843825, 346894612, -1430145523, 3246696374, 514694969])
theorem ok_ctA67 : okA (67) ctA67 = true := by decide +kernel
def ctA69 : Cert := ([[329608961, -6858411813786044, 1261314950685683581, -48118779, -599293729, 1086253322, 1326021073, -126815297, -160037373, -27795389, 6054106], [-1530112012, 6852568856066538, -663266333456457619, 1466513676, 152507183, -508829927, 145166465, -52562681, 236868564, -57995631, 34516641], [-2609589517, -8931777891122161, 552759921264405565, -311619837, -149455585, -923338112, 650580369, -222862946, 93921845, 49602589, 161787520], [-670270481, 37827507217953391, -337053592741733726, 701138052, 201205238, 418086050, -369194774, 91171820, -140545764, -85152053, 1418034], [-1945063512, -23877807192987047, -1499679852121743055, 121864481, -94904933, 144804232, 182889429, -80081347, -51250105, -183711578, -137094200], [-293845541, 5707794362311017, -345519067143294088, 276580321, -830033368, 445937402, 37466712, -228492494, 150991751, 248743339, 44995146], [904676448, 7358245691052913, 333166089621696333, -499997358, -798366001, 236509665, 872038113, -16962226, 218829822, -15598001, -154421847], [-328036728, 6627825871374425, -1881537645441474227, 611498930, 483462351, -631712311, -273614623, -230192090, -41479010, -147700593, 33365713], [-6437869, 3356201752431809, 637471020776698681, 814534955, -30316557, 174432292, -437836547, -195572964, 57770061, -127470995, -234632124], [-1599235432, -1238900490689710, -927369182949535033, -89593559, 438737421, -258489432, 253196547, 74225850, -67168385, 286774828, 49561320], [-422055542, 4774249496891318, 288221178583585967, 14080592, 807756549, 246644745, -258792053, -129038423, 155473456, -257826369, 6146833]], [1245811802, 311995845, -3194347536, -3183763909, -3313427619, -641315692, 656719377, 3411970160, -507597973, -981204326, -860068324])
theorem ok_ctA69 : okA (69) ctA69 = true := by decide +kernel
def ctA71 : Cert := ([[2017528196, -19473601094378971, 1099145707054712219, 325464879, -835906775, 822369267, 494111911, 156065922, 116920297, -151972489, -119972405], [1524158109, -431736442964173, 841104524079912169, 163255801, 533246595, 405912415, -733390995, 89487161, -105537745, -39639780, 285243799], [186596500, -14980190987393795, 2561852580991575033, -526972550, -934698957, 847362457, -737984323, -31675312, 143695894, 22091165, -248431327], [367176748, -4106708237559633, 2752031947336927180, 357641892, -230286396, -600686732, -110133892, -234565735, 136242172, -175489864, -224124396], [1057448488, 11823564546005960, -1784783583534497997, -528781371, -187180879, 610117286, 471488927, 104589046, 216539203, 298439486, 297087062], [1317380981, 8291935581768019, -1165204685848307224, -372329940, -145633032, 10403106, 1114842248, -171646324, -121958476, -119647089, 56969138], [880643427, 16676083256476999, 234402429589356704, 622464429, -486549792, -665547188, -122491104, -154908096, -341251941, -151680649, -186488404], [-435954754, 14027064499198702, 1050273116210555005, -50848902, -1151683617, -232550549, 29832913, 31021891, -64037354, -285007855, -185751805], [-504793075, 11652639935351480, 1279553329089260931, 1028578690, 347684385, 69722686, -343509201, -241878957, -81318066, -29287797, -2663762], [-834453631, 9701350766695760, 1780334943885057068, 197090333, 10988516, -715407359, 861427548, -80337718, -157354069, -63908070, -112270135], [984149480, 20765175651693696, 1204945451982119462, -342584493, 234019490, 173904327, -120836610, -46375129, -6168987, -39855193, -241536705]], [1776116731, 1896224401, -818468867, 3005319541, 1917429972, 143973534, 3835062262, -2864769431, -2957044910, -1258581825, 1662415195])
theorem ok_ctA71 : okA (71) ctA71 = true := by decide +kernel
def ctA73 : Cert := ([[-1446302478, -17540775862478424, 2351670056251609356, -1075507818, 92905860, -1151750522, -368245828, -40205520, -166385830, 141097816, 236117814], [511327248, -31324194503277908, -185422196844388973, -40928906, -142436655, 1380153823, -36543105, 18657011, 17141370, -210511265, 3738647], [-1607848635, 11534534926849338, -758930821085471724, 20513852, 537157340, -949576714, -157468188, 215128613, 51549220, -94417921, 80546854], [-1091487875, 1323294470066199, 209793346202206494, 74077059, 900295498, 94342046, 873269718, -163396966, 262386101, -195395167, 24958734], [-163943328, 16110452694144396, 1507733517387273144, -751339892, 79852776, 160041036, 561187736, -78606408, -268103084, -57267196, -16305236], [-201279275, 19988703413958865, -154241458189614007, -1140956294, 325069731, 64906562, 985143373, -104218656, 167106070, -7898047, -190527278], [-1678157641, 12103798733513181, 218526074202018281, 203967732, -191098493, -520041536, 901294189, -13236100, 228496940, -141611863, -251201088], [1768055444, -474328566468895, 365104030906587177, -384311430, -185256381, 156542335, -721993811, -200458044, -82396650, -153633739, 150391991], [-767404160, 310797306776083, -1736379673380917217, 71020677, 496765141, -458493599, 581320891, -107536828, 21507459, 32423175, -183031511], [2574657458, -19993074325204793, 215092084575904531, 424689039, 112628561, -157466127, 27709695, 55076794, 7683209, -139810191, 28551737], [-925382412, 10768450281089067, -1318196644774496905, 40193339, -481857635, -89914795, 260345971, 38801892, 23849661, 104778815, 218286269]], [-1034300209, -1983537975, -939495517, -742167867, -319111878, 2436590142, -1623377276, 410258374, -982515055, 4651227668, 104163988])
theorem ok_ctA73 : okA (73) ctA73 = true := by decide +kernel
def ctA75 : Cert := ([[-516527204, -25644702542588117, -579198107405581347, -411856088, 190386431, 938375563, 792875953, -76340184, -98994920, 126172547, 80476707], [1747305810, -167643879334606, -2832458201229042484, -59555619, 409535172, -677077070, 339854972, 124686522, -31063829, 123016716, 196111042], [452999035, 7542889593642156, -249172655639165746, 758141857, 544631770, -536330723, 1075078726, -117712556, 97430983, 59702976, 101046469], [2290062697, -3873931033732488, -2059039360444110715, 945578580, 1066563639, -390665511, 18454009, -49276350, -12701748, -222025670, 35776609], [822146835, -12097929705212709, 64404223081270082, 1106446646, 122981590, -204844948, 462940170, 170872584, -242064198, -86058733, 105141452], [279190336, -1179556098638721, -1437712736208827173, -137047075, -922385687, 16647446, -2930457, -33381749, -285202965, 222378106, -48818618], [-241110035, 27455572767295991, 1819404626813131413, -421227169, 270903015, 480442392, -199193015, -68975998, -169668295, 133826921, -45077800], [-2240158527, 20284143865072070, 758063260088962796, -541887333, 356956708, 423202643, 528645404, -49032354, 85508701, -134483836, -21482453], [1878135337, -20588720721582463, -948112183445809315, -407637325, -312432769, -676886871, 146883889, 46200229, -214155771, -184405322, 33914545], [-49310441, -4480029621316620, 274570947307121033, -162080148, -575822493, -457331313, -630986099, 19865546, -188399244, -3554050, 266363207], [335120220, 22854321715707474, 449988386140670475, 510231080, -790168583, 627640869, 432624855, 55797903, 109354520, 68628737, 31402765]], [916571496, 449295168, 197984832, 998650712, -2098794097, -2912674682, 3325919499, -4463317653, 4208481306, -1254434855, 3385618662])
theorem ok_ctA75 : okA (75) ctA75 = true := by decide +kernel
def ctA77 : Cert := ([[1594288820, -23991906765780492, 1550728885681841744, 736521867, -188183184, -840685934, -730237552, -162696646, -110439955, -15618706, 216584354], [753227026, 25642658641240007, -2285812592876092671, 336273685, -106661493, 312416917, -646964507, 95824314, 88274803, -53318799, -103689475], [-235087383, 799950087600277, -110748946783900710, -256827155, -67666082, 1112767262, -1088186366, 377663912, -32790693, 76891149, 99738254], [362687358, -16816389847425283, 1522524592176452914, -551485741, 496923174, 573582954, -400155718, 218214977, 8199909, -231426674, 49109306], [157339810, -6109948579241849, -530925297370805659, 632264071, 151887063, -461964149, -315047079, 290257456, 261185873, -61970265, -43592413], [1134596436, 10081379068714368, 405777896816745930, -94589334, 110369966, 620228934, 1075876786, -272143606, 138247334, 34185354, -92780554], [1533144076, 18036173163529632, -70121891201304584, -418667897, 275653544, 513467580, 1272461528, 59914888, -66937775, -96130520, 41158556], [-57921197, 11965223014352859, 1297102923112939674, 876865802, -454376546, 432117742, 920414146, -64264848, 102437638, -230804869, -75251234], [-495967345, 17027345652475381, 1318671832406093469, 289699016, 445220671, -774018323, 147034481, -138260331, 204553336, -56371622, 79906837], [-1231303810, 4928083880441666, -933419841723519263, 791817242, 384977963, 753785006, 558692933, -61671178, -99578250, -11181736, -165832546], [-350885126, -24501467113422099, -365177505383675829, -414062985, -388118343, 308454319, -605633513, -53724710, -26775071, -411625, 262283367]], [3511229861, 2023956942, 91182066, 654272956, 1088047185, 3232104384, 1914122559, -1236693082, -2497556104, -1882202912, -2016660497])
theorem ok_ctA77 : okA (77) ctA77 = true := by decide +kernel
def ctA79 : Cert := ([[-180787148, -6818481334736219, -100877858297507246, 733766687, 570598022, 590155798, -352769702, 130836693, -148029319, -8554934, -393037498], [-543756441, -20390088884565615, 692782595411492852, -661968339, -352872068, -1343664277, -889376444, -122719287, 118448155, 107179242, 70346499], [355756218, -30524000975080245, -1771696657483252273, -292469876, 588134245, 269106124, 551604011, 98614139, -7434924, 208919670, 40739628], [1477972195, 5593648513747691, 214436948729711790, -867567104, -833162630, 799237833, -529346138, 52959993, 26449408, -25902060, 183302097], [-1124856659, 23785940909393666, 715077990134916546, -447546972, 255733846, 907072749, -339223414, -1564848, 120557820, -109087886, -32931307], [909144814, 8669723437651209, 2017892597725667331, 76712284, 764176801, -340770697, -207658065, 265817716, 4203524, -112159091, 25581935], [-1037068027, 18089089450567459, 43520315083999586, 26589252, 868059190, -60283205, -96560470, 167686277, -201374884, 109389144, 44020947], [855980839, 7274635076388982, -594531692055301965, -201373381, -409323215, -755657700, -559177441, 201081181, 104877757, 85590067, 53557756], [-803644643, -23795084339238339, 433347359294869345, 982740318, 26800555, 69604294, 312904901, 163692582, -79957806, -167877965, -16032138], [-24656761, -317381842885924, 1189126748764255762, 377116219, -134378554, 297203457, 814015514, 179959972, -30766659, 187776832, 61412297], [-1517495012, -11419303622149831, -583301230945843461, -579896499, 100946505, -619034000, 374499207, 60356435, -109771781, -148234596, -95669776]], [720888438, -2244546850, 391010341, 1390874996, -4642075608, 3718135777, -2577620693, -782514641, -3342433580, -1488976530, -1208319975])
theorem ok_ctA79 : okA (79) ctA79 = true := by decide +kernel
def ctA81 : Cert := ([[-1870112983, -10164212869868278, 353319350849847077, -4109494, 460849431, 521358655, 185889561, 90994234, 10459846, 271969508, -503348617], [-2468803925, -21634400772717137, -774006866923976239, -791109074, 674016379, 1282475253, -84270347, 114198599, -155537278, -116329882, -260548515], [1077783, 27215625148342399, 234761917147996705, 438505667, 38903787, 376730512, -526839163, 336680438, 48354933, -19181595, -142672880], [1131317352, -8366521374931972, -774681371779587120, -1084400933, -794824208, -389385935, 523434256, -163340067, 27682333, -215536999, -32324743], [-8503977, 5393224645974172, -546512888724773800, -608998454, -641532984, -150627849, 703351480, -195016558, -267473338, 34259182, 127901423], [-1062215156, -3235365325873811, 303622722761369657, 325601756, 844623603, 723282881, 666357245, -122081246, 105158532, -131960609, -260260215], [1737629719, 13392161467878532, -639986413910409383, -520311335, 417070419, -603478210, 187325853, 58656505, 165198415, 96605629, 255657902], [1018203010, 1223677545550258, 93874310336342189, -262912577, -110703121, -1062650851, 1219490241, 135849561, 123078617, -115578837, -31111483], [1264934641, -5952750281501673, -2016737872516525941, 471882157, -421887111, -556033885, 592618839, 13678451, 26311835, 25246330, 114344955], [-298351147, -13620148100661206, 1005722935750076957, 346713906, 58742207, 1162956401, -25376015, 20507144, 25971998, 134090194, -44860743], [1149567831, -10785720601236324, 242686847325651418, -104442290, 466989406, 15511090, -191166974, -34885403, -201381534, 77364545, -3289790]], [-330908382, -2043012394, 3222128199, 4142722207, -922897013, 1410316184, 1248586727, -637519396, 1489037457, 2445117637, 6010630101])
theorem ok_ctA81 : okA (81) ctA81 = true := by decide +kernel
theorem allA : ∀ c : Int, c % 2 = 1 → -81 ≤ c → c ≤ 81 → ∃ t, okA c t = true := by
  intro c h1 h2 h3
  have h : c = -81 ∨ c = -79 ∨ c = -77 ∨ c = -75 ∨ c = -73 ∨ c = -71 ∨ c = -69 ∨ c = -67 ∨ c = -65 ∨ c = -63 ∨ c = -61 ∨ c = -59 ∨ c = -57 ∨ c = -55 ∨ c = -53 ∨ c = -51 ∨ c = -49 ∨ c = -47 ∨ c = -45 ∨ c = -43 ∨ c = -41 ∨ c = -39 ∨ c = -37 ∨ c = -35 ∨ c = -33 ∨ c = -31 ∨ c = -29 ∨ c = -27 ∨ c = -25 ∨ c = -23 ∨ c = -21 ∨ c = -19 ∨ c = -17 ∨ c = -15 ∨ c = -13 ∨ c = -11 ∨ c = -9 ∨ c = -7 ∨ c = -5 ∨ c = -3 ∨ c = -1 ∨ c = 1 ∨ c = 3 ∨ c = 5 ∨ c = 7 ∨ c = 9 ∨ c = 11 ∨ c = 13 ∨ c = 15 ∨ c = 17 ∨ c = 19 ∨ c = 21 ∨ c = 23 ∨ c = 25 ∨ c = 27 ∨ c = 29 ∨ c = 31 ∨ c = 33 ∨ c = 35 ∨ c = 37 ∨ c = 39 ∨ c = 41 ∨ c = 43 ∨ c = 45 ∨ c = 47 ∨ c = 49 ∨ c = 51 ∨ c = 53 ∨ c = 55 ∨ c = 57 ∨ c = 59 ∨ c = 61 ∨ c = 63 ∨ c = 65 ∨ c = 67 ∨ c = 69 ∨ c = 71 ∨ c = 73 ∨ c = 75 ∨ c = 77 ∨ c = 79 ∨ c = 81 := by omega
  rcases h with rfl | rfl | rfl | rfl | rfl | rfl | rfl | rfl | rfl | rfl | rfl | rfl | rfl | rfl | rfl | rfl | rfl | rfl | rfl | rfl | rfl | rfl | rfl | rfl | rfl | rfl | rfl | rfl | rfl | rfl | rfl | rfl | rfl | rfl | rfl | rfl | rfl | rfl | rfl | rfl | rfl | rfl | rfl | rfl | rfl | rfl | rfl | rfl | rfl | rfl | rfl | rfl | rfl | rfl | rfl | rfl | rfl | rfl | rfl | rfl | rfl | rfl | rfl | rfl | rfl | rfl | rfl | rfl | rfl | rfl | rfl | rfl | rfl | rfl | rfl | rfl | rfl | rfl | rfl | rfl | rfl | rfl
  · exact ⟨_, ok_ctAm81⟩
  · exact ⟨_, ok_ctAm79⟩
  · exact ⟨_, ok_ctAm77⟩
  · exact ⟨_, ok_ctAm75⟩
  · exact ⟨_, ok_ctAm73⟩
  · exact ⟨_, ok_ctAm71⟩
  · exact ⟨_, ok_ctAm69⟩
  · exact ⟨_, ok_ctAm67⟩
  · exact ⟨_, ok_ctAm65⟩
  · exact ⟨_, ok_ctAm63⟩
  · exact ⟨_, ok_ctAm61⟩
  · exact ⟨_, ok_ctAm59⟩
  · exact ⟨_, ok_ctAm57⟩
  · exact ⟨_, ok_ctAm55⟩
  · exact ⟨_, ok_ctAm53⟩
  · exact ⟨_, ok_ctAm51⟩
  · exact ⟨_, ok_ctAm49⟩
  · exact ⟨_, ok_ctAm47⟩
  · exact ⟨_, ok_ctAm45⟩
  · exact ⟨_, ok_ctAm43⟩
  · exact ⟨_, ok_ctAm41⟩
  · exact ⟨_, ok_ctAm39⟩
  · exact ⟨_, ok_ctAm37⟩
  · exact ⟨_, ok_ctAm35⟩
  · exact ⟨_, ok_ctAm33⟩
  · exact ⟨_, ok_ctAm31⟩
  · exact ⟨_, ok_ctAm29⟩
  · exact ⟨_, ok_ctAm27⟩
  · exact ⟨_, ok_ctAm25⟩
  · exact ⟨_, ok_ctAm23⟩
  · exact ⟨_, ok_ctAm21⟩
  · exact ⟨_, ok_ctAm19⟩
  · exact ⟨_, ok_ctAm17⟩
  · exact ⟨_, ok_ctAm15⟩
  · exact ⟨_, ok_ctAm13⟩
  · exact ⟨_, ok_ctAm11⟩
  · exact ⟨_, ok_ctAm9⟩
  · exact ⟨_, ok_ctAm7⟩
  · exact ⟨_, ok_ctAm5⟩
  · exact ⟨_, ok_ctAm3⟩
  · exact ⟨_, ok_ctAm1⟩
  · exact ⟨_, ok_ctA1⟩
  · exact ⟨_, ok_ctA3⟩
  · exact ⟨_, ok_ctA5⟩
  · exact ⟨_, ok_ctA7⟩
  · exact ⟨_, ok_ctA9⟩
  · exact ⟨_, ok_ctA11⟩
  · exact ⟨_, ok_ctA13⟩
  · exact ⟨_, ok_ctA15⟩
  · exact ⟨_, ok_ctA17⟩
  · exact ⟨_, ok_ctA19⟩
  · exact ⟨_, ok_ctA21⟩
  · exact ⟨_, ok_ctA23⟩
  · exact ⟨_, ok_ctA25⟩
  · exact ⟨_, ok_ctA27⟩
  · exact ⟨_, ok_ctA29⟩
  · exact ⟨_, ok_ctA31⟩
  · exact ⟨_, ok_ctA33⟩
  · exact ⟨_, ok_ctA35⟩
  · exact ⟨_, ok_ctA37⟩
  · exact ⟨_, ok_ctA39⟩
  · exact ⟨_, ok_ctA41⟩
  · exact ⟨_, ok_ctA43⟩
  · exact ⟨_, ok_ctA45⟩
  · exact ⟨_, ok_ctA47⟩
  · exact ⟨_, ok_ctA49⟩
  · exact ⟨_, ok_ctA51⟩
  · exact ⟨_, ok_ctA53⟩
  · exact ⟨_, ok_ctA55⟩
  · exact ⟨_, ok_ctA57⟩
  · exact ⟨_, ok_ctA59⟩
  · exact ⟨_, ok_ctA61⟩
  · exact ⟨_, ok_ctA63⟩
  · exact ⟨_, ok_ctA65⟩
  · exact ⟨_, ok_ctA67⟩
  · exact ⟨_, ok_ctA69⟩
  · exact ⟨_, ok_ctA71⟩
  · exact ⟨_, ok_ctA73⟩
  · exact ⟨_, ok_ctA75⟩
  · exact ⟨_, ok_ctA77⟩
  · exact ⟨_, ok_ctA79⟩
  · exact ⟨_, ok_ctA81⟩
def ctBm81 : Cert := ([[-882391041, 15803333492099455, 647051044887601736, 731317380, 342973720, 128185091, 525386344, -82016660, 350679324, -110522276, -189449893], [629204760, 19949205427159820, -1509841451032575509, 200062382, 781243033, 1347585699, 95907895, -67813329, -60126974, -200133853, -55991813], [1325630073, -1068619144566639, -706378093003117572, 738800889, -85245484, -603718680, 865528940, -103161593, -132376529, -67856593, -65705688], [-1991683047, 972999940254644, 1599319032739817794, -497987990, -247867690, 742136205, 206028298, -182662463, 11132070, 219774988, -87497803], [-484571569, -10148398885853312, 22574154681128771, -329215685, 381954401, -969779458, 601411567, -161339922, -6011203, 233853551, 171443566], [244611654, 28748122083964368, -1075003653018355381, 343694446, 149169081, 364236574, -278537961, 60423102, -76767166, 109727592, -168438130], [-3019016439, -11021532960121341, -523809382013007702, -512597146, -491379634, 202292866, 471911954, 76091999, -56545782, 135259689, -43525102], [-661234916, 3481734743911993, 252249071365968805, -349893011, -948591977, 554239772, 798607769, 154769587, 35403227, -28190736, 195200252], [1385203733, 7593592831896242, 602358104144975223, -480965985, 874057629, -511470688, -300617613, 135888334, -87278087, -51972197, -80648032], [-1314227992, 7389192423083104, -37852334951154437, 554798210, -23042999, 493459796, -83757689, 71757972, -202139570, -120680564, 152908532], [928925296, -11640933592214760, -244460020777630757, 720537232, 434937833, 214666083, 583285735, 7896099, 130589680, 170164939, 68771003]], [-2189326595, 336004876, 1473940263, 654366509, -1431000438, 251377308, -3276214085, 1588970513, 563419268, -3006305551, 1427760078])
theorem ok_ctBm81 : okB (-81) ctBm81 = true := by decide +kernel
def ctBm79 : Cert := ([[-2358511376, -21146979316437823, 1915020669613405750, -80875907, 1672527698, -548119451, -250392498, 72398844, 145677387, -99781109, -25968819], [3573418216, 3209267544108371, -3282235809542705126, -265102409, -426750434, 432729297, -518675134, -11665898, 143924897, 105682843, -84519911], [83779213, -9551688909278903, -1385542689791718844, 1477951682, -957828372, -286569274, 494787284, 65525533, -116089330, 210508791, -320266378], [-157712672, -5698562245793613, 257136816894210474, -566747004, 539043662, 1445846780, -941114606, -69776263, -57068260, -181551322, 55280604], [1948984597, -9956837261755144, -2632592206767259232, -74375086, 4121056, -577105249, -96447456, 51110495, -169438978, -42340414, 7469783], [807675755, -26160559476110347, 54859590785882550, -290581161, -665270830, 121605808, 283431374, 128793707, -34255359, 191932763, 107464752], [-1458628457, 15064742020957038, 374078742132673990, 273007939, -450573694, -339292699, -35138530, 234219391, 8156661, -75192630, -205202227], [1798193036, 4954533506593187, -1126269990897706256, -596331060, 27598928, 179278757, 148793520, -123307718, 27493652, -322858869, 18292877], [612949952, 108843556356511, 183236825809766238, 906048149, 203296778, 250293655, 608706838, 197003904, -3145229, 187061857, -37550193], [-403817192, 7008457376643869, -1839229200899528949, -260867578, -656573703, -116098995, 24085975, 26433288, 113657962, -154295533, 129910901], [-446108633, 1889313038072052, -1022564261539548777, -415331671, 22615293, 121236066, 491108627, -2820930, -113307137, 73999987, -136786190]], [-1041998895, 1440826790, -1106871744, -1297165213, 851054981, 1074074466, 769367524, 3160989019, 1052959368, -4290583271, -2830225137])
theorem ok_ctBm79 : okB (-79) ctBm79 = true := by decide +kernel
def ctBm77 : Cert := ([[871231782, 11695655755237770, 1982547798287635142, 66008678, 435192194, -715784214, -708686562, 213803920, 57807626, 326828588, -191572294], [-1631329479, -3707977131202301, 3838623528191235408, 439425887, -578973072, 389255245, -202571632, -102048830, -35849415, -266892144, 92807285], [2359213688, -11431025937270622, 578298723374125683, -361475290, 1133104241, -561554028, -624569889, 217946482, -68770742, -20524332, -27965132], [-664554231, -12420756696513624, 627047161562362552, 1164016293, -702903832, -451358516, -85424488, 218963460, -36863901, -29972429, 13934636], [-2242700139, 10688068326125477, -1595688458401345946, 26702426, 557506914, 371089875, -516390082, -70887370, -83766730, 42133058, -126125397], [1587507662, 12722638789606114, 52115926425829358, -458867527, -431274438, 161416964, 683272678, 263117858, -142068113, 20005006, 49091108], [54387913, 13248828671658908, -2359555095302849649, 140647861, -523567451, 128708625, -1173746709, -101759491, 69704659, 170150160, 89579865], [595344871, 9515011575594381, -2261213486692772534, -831405311, -1039712466, 11034801, -615270094, -79307748, -90342041, 244967038, -25047303], [2760872032, 4790258473234000, -524577519397025986, 304483279, -283836758, 336349133, -670522250, 73128101, -51562423, 92348757, -84003851], [372111996, 13614274029514197, -771908330419283826, 839135844, 778741018, -266587638, -402665210, -170625483, -62691780, 117765530, -69291558], [298658416, -751239815597876, -362418499581257935, -118928437, 197570459, 312242677, 249526741, -75144751, -58992979, 329330045, 82111837]], [-695956264, -488365019, 382798807, -1403589555, -3208470516, 24173217, -604325857, 17860795, 3198354993, 1424273058, -507208924])
theorem ok_ctBm77 : okB (-77) ctBm77 = true := by decide +kernel
def ctBm75 : Cert := ([[-819120657, 7879372973813954, -182176331409039788, 746646858, 336795548, 131645926, 163609892, 431004596, -20330298, -119753653, 359830934], [567992613, 3032203117823188, -564714539264333200, -1121036560, 108333776, 183418415, 323700272, 292002515, 73169552, -71435270, 232582887], [-1006842109, -10678592280754294, 1968297581059077319, 1153460499, 411881485, -261408009, 473178883, -78186811, 250797733, 107110944, 135202799], [-236454615, 9693593882700063, -1039088761928576260, -977110120, -389714220, 678052738, 624545644, -332878717, -149128664, -150561681, -118011630], [-677269244, -30051289503581259, -354241648744855720, 707577176, -1006093112, -312111359, -604612168, -253701052, 3024488, -58432009, 85879753], [-720292027, -6031171378549845, -1625584567630565443, 326198745, -1102830689, 844088184, -60427503, -152444067, -57753009, 146565553, -9086664], [-945916773, -22985796914169289, -946232122696813114, -31662883, 18334338, -282430368, 126508062, 231916601, -163330837, 49600411, -23928992], [1568470245, -14470939333564437, 537881745832297324, 475686144, -284574812, -372586249, 319845276, -86855724, -75062528, 89844040, 168658415], [-248733987, 4299698829650392, 996102579998122582, 540113346, -1017121614, 7417539, 564390126, 23846851, 154537230, -73403746, 83895067], [-921258881, 8274643962435653, -8709141319477973, -773784416, -270285223, -254233607, -284039049, -184259220, -244669344, 111485540, -91139455], [-752167282, 3826286053096754, -2023446930405257188, 46757982, -169386188, -770837854, 165354764, -168926240, -112042542, -40183816, 45893938]], [-1422042937, -495071012, -3561399464, -963405276, -1240742057, -295778662, -1933800560, 4737739625, -466576842, -3358666626, -300080850])
theorem ok_ctBm75 : okB (-75) ctBm75 = true := by decide +kernel
def ctBm73 : Cert := ([[-1700527168, -26388398007538555, -215231202180382821, 287846750, 1498730793, -678913584, -501141849, -79517957, -147403566, 37491832, -185465776], [704925900, -18241101274953148, -1714175733201183964, 1030127625, 278486156, 698947725, -549973196, -18460111, -352466017, 142376777, 70851253], [1349318681, 5870681353442291, 275356721450445506, -58595984, 134293334, 525755194, 883889546, 90610151, -76623856, 89479801, -244707190], [-815887701, 9543573769181263, 4043392408994875890, -144737035, -389278106, 179547994, 1174571898, 47374059, 118681235, 66101063, 16733610], [380987573, -14523132340623275, 1143726554521640528, 543987557, 222066032, -119848771, -432665200, 289081920, 137105827, 131890568, 87124069], [1664904032, -7416772267103207, -1245975815743727369, -733028810, -476940771, -316340370, -408743437, 44274997, -215148614, 211459974, -37466786], [857521438, 12487451351200543, -2467804839904593649, -437596555, 520561445, 297970704, -568668309, -224620031, -72566509, 160842314, 39540880], [281490262, -21509139444894594, 1765456283998012241, -774207637, -101587717, 456755834, 196350581, 901740, 124245005, -37880316, -58138166], [-282756438, 3491490641206014, 1550426738952240389, -302746970, 521542071, 256186891, 234417273, 190894277, 91181258, -160985783, 149028515], [-1583613857, -6782258241961279, 776770661943990426, -392909897, -567440482, 198470945, 269492162, 216192408, 107925153, 67121058, 479977], [1417733733, -20453910733803787, -1754581695732303352, -183005855, 336937560, -532299041, 257311016, -96240046, -39523833, 65346186, -12034793]], [-2041252509, -605425555, 1553343555, -595164763, 2345021565, 1440998756, -794505037, 1636936397, 289035525, -5479155502, 813700469])
theorem ok_ctBm73 : okB (-73) ctBm73 = true := by decide +kernel
def ctBm71 : Cert := ([[-3788995075, 13001362417248109, -125703869882526439, -1398279339, 404851859, 726361921, 220287581, 87673676, 49123123, 12655786, -96586231], [-1313456857, -1443200866523408, -2736468833033468348, -103188563, -143718676, 933187567, -166869292, -189370185, -225637, -102586128, 29253287], [-986024378, 15983057207790105, 1592405038485144177, 493029791, -386716837, 808680650, -533534187, 248638577, 107337465, 42798506, -93625702], [-364970550, -20521417871151398, -281436742532396274, -1464818086, -249704294, -450423284, -63390330, -34453006, -3817930, 320162270, -133824660], [723762085, 14899253835450090, 218552698013517023, 883094174, -433140459, -410948333, 118984827, 143464801, 61115794, -11217294, 353652715], [-497031063, -24122228550035314, -198289302310740372, 366532407, -573332316, 804683205, 272784028, 341575487, -29864159, -186073976, -112102483], [-674403674, -1936161229871518, 781649139861032573, -1316654606, -6498849, 279597899, -278547247, -64235423, 96495710, -50957079, 195621347], [176673420, -7276488682275290, -537110638423010880, 732625386, 62595904, 355689471, -518283072, 197564337, -249963226, -127082609, 103046967], [1182469373, 19841878070300562, -1202541545274075900, -363295344, -459618004, -313918713, -287344492, -120387891, -99781392, 54046, -96070529], [812048255, 4659921787476661, 93573785988368927, -239818355, -170514731, 758997479, 236946107, 163460058, -88301637, 94756750, 87644767], [997878135, 4740913370376638, -1357332862474209009, 181944092, 506307365, -231517358, -226734229, 40348356, 66733124, -48970769, 18740066]], [-3104298107, -1225664283, -246533197, -1094788808, -2168780892, 646164319, 1596423425, -1785701202, 1283537402, 3929918814, 3012392651])
theorem ok_ctBm71 : okB (-71) ctBm71 = true := by decide +kernel
def ctBm69 : Cert := ([[114695054, -15623860578554394, 2212177126114907632, -57827275, -1791664, 596303518, 1161605040, -61116728, -37937837, 138252472, -169016818], [860817660, 18473603408639812, -2469689232163015938, 90342246, 166150122, 688088385, -372209866, -9724283, -214036982, -215542947, 91005961], [37342227, -19132013104928117, -255219459290313140, 761854508, 1616585540, 839547733, -170963460, 62437122, -32634956, -82848410, 310102461], [1565266162, 12294897900188739, -649698883675846315, 585712802, -1360410329, 82637993, 454549513, -80856898, 125807918, 204793003, -150938447], [-940734084, -20166346669764373, 139774121457330271, 219015781, 486347669, 571540322, 762761723, -309092137, 128743075, -53034270, 121597938], [-2240269443, 1123131262928391, 703636409407358938, 694822609, 837710686, 8584574, 676652034, -117091337, -206821865, -98091267, 192200686], [-825538747, 13402549435953188, -1396576076070064678, 28638116, -274721442, 605422398, -371465726, 44025674, 44982012, 91766121, -210549842], [52100705, -10765775137869298, -1410194786519226635, 107976298, 1287036679, -233641304, 321028137, -46284806, -82258778, 52502639, 18996712], [-476933532, -27911834413545135, -676877299796169827, 446466973, 412231231, 137110835, 56730225, 9145386, -82242517, -215921877, -39624437], [161818180, -8912889844422245, -1395670769314853849, -339160159, -591625939, -193186443, -50058269, 40387090, -114676281, 127524677, 110324957], [214727574, -4876024128504970, -403019968132415362, -199111326, -109865878, 214614618, 565189302, 150380244, 159691374, -61363444, 46743722]], [1440358630, 2574352848, 1084386544, 2065186442, -920585216, -3668064868, -4677174962, 1536494160, -540514710, -1693044506, -1006445127])
theorem ok_ctBm69 : okB (-69) ctBm69 = true := by decide +kernel
def ctBm67 : Cert := ([[-106842801, 9543519316711788, -1448954791479213756, 1625962832, 254808044, 140687946, -236810796, -107192850, 201822000, 184609139, -274158566], [704756705, -47919331856112221, -159441818669889690, -829539983, 564483170, 923554587, -173866946, -201150240, -37444489, -144379544, -106689485], [832671499, -18635705978633795, 1867034426389573058, -1112267081, 168265814, 732572859, 61998218, 102332614, 32590753, 190632882, 72248019], [-1261380406, 26295150350895401, 1574290649453322887, 250433955, -858790067, 1494609689, 1413484483, 220459112, -95883115, 8619369, -23773535], [-1919623714, -5518354811800833, 2356583115108393684, 498688741, -902051556, 1161800778, 423609252, 67058091, -127012317, -9934982, 86683162], [185460383, -3234106456350315, -1937164025520660697, 196852130, -715615699, -1037143783, 214461155, 4851004, 131383342, 28638300, -14987103], [-2324613654, 15546718864770681, 432576372786233407, 583018679, -348960203, 15741498, 819367259, 102821633, 165026209, -53054510, -11954294], [377131726, -3904206400767574, -1772316568600615185, -895069471, -26801211, 187497596, -608274229, 64419858, 4350087, 42016578, -213930660], [1463429014, -2510046736574411, -15740448887596922, 338971686, -22519614, -625965504, -714083874, -67834821, 132895562, -107191532, -155555776], [640761705, -13981448611664864, -880366124782001851, 449892238, 481822839, -264616291, -266610247, 61835045, 50328098, -67820212, 285246789], [-308980180, 23451203412817137, -984621112595617965, 218951189, -394550767, 246966620, 151035455, -67707205, 56914547, -99833198, 258451772]], [295561440, 409115756, 1359337224, 4672369512, -2792503970, 1802446515, -5009388976, -2431798435, 3946283072, 1304255665, 264410361])
theorem ok_ctBm67 : okB (-67) ctBm67 = true := by decide +kernel
def ctBm65 : Cert := ([[-731731937, -5646512044113996, -514598504397973542, -437499814, 493462366, 857755947, -1469533182, 46111183, -2888650, 24184308, -10434877], [-1252831725, -5237178003221888, 1102647440403360946, -1059496839, 304100518, -1661117275, 196911418, 55736077, -115868497, 43352458, -43126387], [-916350864, -5424652724068953, 1108207795875562814, -1117443529, 279439530, -1147435569, -651371914, 80289264, 172340257, 311137751, -4707449], [183375606, 37684411696646750, 769622419719705420, -95149059, -1178084796, -1281997968, -430389508, 59764658, 45769419, 139544218, -5852432], [1354155299, -14697130541679058, -792696962871695578, 954010928, -383184478, -339220799, -284940546, 41424251, -312881584, 125065462, -76787319], [-877890350, 19035702991701485, 1810658346287258172, -72811177, -820928876, 166181626, -242103380, 152929549, 237544961, -104683752, -190908854], [1107799207, -27110249855400819, -605698232071039677, -719266249, 765907809, 184631864, 232343023, 196178971, -194306015, 68044897, 40164856], [1425690216, 9104376626220523, 946446345025509967, -87193910, -614190875, 685486327, 225529259, -183545388, 73894726, -77150777, -151802385], [-221073600, 15783522730945213, 1274213809292032979, -194801539, 1000965009, 869846741, 271168703, 28175920, -95221173, 53586237, 45701437], [960712195, -12849021502668690, 1067108684919411658, 908760241, -207278418, -248440904, -68476494, 1686826, 8870711, -236042235, 58294136], [-318480879, -18555989008828950, -45527615331977168, 108238659, -706575856, 244884092, 327865072, -25104942, -75762699, -32854405, 69010268]], [-697379231, -2276034824, 675829993, 2524287166, -617482334, -1940309419, 4586736904, 3725676691, -1074871771, 2763385354, -3418935113])
theorem ok_ctBm65 : okB (-65) ctBm65 = true := by decide +kernel
def ctBm63 : Cert := ([[1208705807, -1838583795464240, -2076997175423761015, -1159598176, -353789597, -32233035, 148911757, -61594035, -127637152, -285120066, 41628445], [-1102425214, -16269533159136791, -432924707604259713, -298103970, 1910972661, 612863006, -277343589, 40446101, 45499090, -167772230, 137837454], [469625689, -1587287353362982, -1769965943245414114, 979002107, -465695926, -301022017, 46819798, 22276477, -38425859, -233795494, -138521097], [2524489712, 679829029028958, 925622893679750986, 454109180, -1761665746, 6134408, -191153358, 55121802, -98109852, -5888292, 31552712], [1248006340, 2774699586423503, -871780007440965090, -618591928, -849783222, -515601538, 470781654, 95595695, 143981560, -365277908, 23412206], [1727490688, 10941881495415400, -360650099382961298, 82317835, 165319866, -91631691, 822256486, 66884661, -164652435, 421078733, 70420765], [2868522193, -3001441175814696, 1322740980687051288, 585488106, 515009288, 578523531, 468672376, -32802101, 11585574, 175888210, -51129821], [-1253232091, -13781762848635382, 1189083641648305964, -23736241, 512226532, -608709806, -1030627748, -178750536, -66500663, -69235495, -64588958], [-966837851, 5947264744730426, 2596541968235858707, 405440854, 219482961, -554387327, 284547327, -38742673, -169348710, -181575968, -2358967], [976879327, 15808047570030103, -1356555025056845175, -1233710789, 334596195, 102871103, -424151155, 184672368, 45205181, -129543014, 20397431], [1367760836, 29313004505480124, 98551572525218558, -36242680, -229337110, 108590054, -480858314, -121488870, -11059144, -16261478, 37869462]], [44713961, 1001292045, 746495723, 1403528543, 2533703474, 1931025705, 3203119349, 2588657819, -1130267989, 753712683, 973687543])
theorem ok_ctBm63 : okB (-63) ctBm63 = true := by decide +kernel
def ctBm61 : Cert := ([[-1885476134, 6698930429690268, 267119397450380385, 1002086602, 249661611, -1108554152, -626383419, -41193028, 211616070, -4301394, 27943704], [-920040383, -12229550587316472, -1506749979032069664, -1184186536, 477285536, -318029274, -37485216, -93655986, 300792936, -105191643, -178108458], [276960656, -35883051874909462, -237616359681033999, 476434110, 327484123, -188046021, -637080939, 90952905, -236183950, 21810459, -96532653], [2709938008, -7519517854604412, -641298876865997210, -20628201, -537282206, -849398796, -832230594, -19626800, 8670273, -8181332, 131209876], [648383152, 12627580231126481, 251474839245629636, -1017542784, -448363924, -764164351, -269786284, 95339112, 88179840, 56988885, -181902391], [1352084057, 9214932039486117, -515530284044505903, 68497757, 19934587, 476729512, -25562635, -233781645, -3029909, 197566763, 135853032], [-293868899, -6079765117859325, 1888858181004028675, -527421390, -254958943, -86120881, 1209203375, -91260332, -117115874, 42853966, 48754695], [830613288, 6160964544772581, -1109786463649195142, -672982835, 611441470, -491108566, -994274782, -30468283, -85630341, -115298626, 110479354], [409439184, -9927351855498919, 194468406489506850, -27589402, 1098419830, -350467117, -760067990, -128812222, 54929546, -221893513, -88066901], [427742309, 3625014451236521, -519111006075605258, 47710610, 1222905746, -478381785, -74198002, 130502630, 175452606, -35183866, 4692895], [-895865442, 2944094183686505, 1927297069038635374, 132769850, -364908870, 649698680, 31943014, 73078975, 31342422, 102953110, 188318520]], [-2969951130, -1848148567, -1075937375, 3339920744, 911523260, 1031055312, -407493187, -3122679142, 2601710656, 2256179436, -951268627])
theorem ok_ctBm61 : okB (-61) ctBm61 = true := by decide +kernel
def ctBm59 : Cert := ([[-400966450, -1813664736760856, 710218575043926060, 469660287, 259637220, -793146975, 780698460, -64838399, -97253095, -393059893, -26430615], [690495633, 9861364768300214, -93294918767846400, -494074288, -314838016, 235018703, 1316768768, 109258865, 183503408, 89823394, 51535751], [-729516352, -18874179809499197, -550510166535762897, -1005923655, -123484795, -290081545, -436270325, -175308164, -38760337, 216350525, 196137455], [1277676162, -2731297440935183, 724189705555882811, -556557345, 7543049, -350031929, -436994873, -130042178, 256028345, 236171607, 63520575], [-1627172722, -1509800248942773, -668891006495309192, 604543094, 608098088, 428699977, 604380504, -114162986, 79234938, -88175807, -240568751], [1987117987, 408720666436275, -407924924864308899, -432130975, 470777215, -664506783, 656887601, 14007494, -110486777, 90536964, -209367511], [-2405937207, -2824228900230391, 1365594975539784271, -243549126, -465313563, -110304220, -519529045, -37916117, 170560342, 183152469, -129486780], [-1618283448, -797828734816888, -1249698233370975752, -365375532, 275870120, -275268032, -310949160, 118482488, 307904076, 70851400, -64659392], [-1219737642, 10352276729858690, -776690490688410369, 109550491, -332704139, -928143336, 362878235, 47057718, 95187805, 154219222, 41179864], [-42983059, -31624745576650368, 488097725811777546, 1054032790, 426120558, 443879896, 222598898, -20553448, -107159206, -22642149, 61170328], [1458319000, -7132288207571601, -534201317318388220, -184614703, -891268052, -374200399, -252813932, -38201318, 56613911, 47129703, -97841671]], [-505659558, -26670559, -1750583415, 2622326272, -757765937, 857693316, -2483400553, -533072861, -1061654020, 374774614, 1769908641])
theorem ok_ctBm59 : okB (-59) ctBm59 = true := by decide +kernel
def ctBm57 : Cert := ([[235100421, -33533073404733832, 1191194747668531123, -226619436, 1517270577, -182647661, -867421153, -5490317, 272039500, -47332586, -83082389], [-305451866, -28675761893438267, 1802176412502038280, -389364531, 579060056, -1064374348, 503607848, 4104895, 91985531, -60095386, 158565460], [-1415302390, -880557824507891, -2630956979486304984, 1218791643, -566625096, 167366010, 524412104, 123330413, -49862627, 34126584, 166296778], [-1292142780, 23820281158947482, -2557964986399881986, 557938729, 35685866, -349595565, 247406902, -107884559, 131637375, 34626903, 41108779], [-1888755475, 22861269588903366, 1221479612472095849, -641751878, 468700419, -700101385, -72481555, 77189321, -54454570, -156771518, 80685551], [-870665553, -19552763294588672, 467404141479411924, -500038207, 400757532, -677625394, -389178972, -113823298, -15837017, -262945441, -176774466], [-1056786504, 2025547164936465, -669478743325939346, -830406889, 540249786, -984621351, -873084570, -117068864, -216049087, -26894751, -58098591], [-968015378, 8905010948352867, -148435376293789677, 581173982, 681529937, 204827591, 1271841279, 84082220, -23849134, 109953817, 12360511], [649850242, -27685460356713084, -930089241112925181, -1292549638, -282727007, 337880748, -299163729, 7374152, -29533290, -49925686, -70644468], [327817937, 3468617723643786, -1489135637140032941, -797667061, -92841199, -643953044, -595479233, 144994722, -5328019, -69151781, -163806516], [-1595379612, -2531922375429542, 470070711849658269, 685192507, -1076594113, 8927581, 334859889, 2780427, 142623421, 79951121, 35069445]], [-1910577003, 2442852132, -1213167750, 188968396, -3351196924, -515353583, -2579159076, -2418729272, -2712800670, 1958139784, -4666595457])
theorem ok_ctBm57 : okB (-57) ctBm57 = true := by decide +kernel
def ctBm55 : Cert := ([[-1390424788, 5196647391838730, 2842759762375760208, 694953966, -151126416, -552605131, 632444048, -87383053, 105087170, -88448371, -239642723], [1021276927, 12686046165599000, 354640224016493111, 408563898, -228748323, 137296575, -811565005, 144223071, 21981910, 372739416, 278969335], [-1431832214, 6835500384812359, -916382569088269217, 465348835, 881969045, -298920903, 93740539, -306467446, 208603989, -95201327, -252074815], [88878570, 44886999355230407, -1363511649725648726, 61523355, -1001710514, 473338591, -658418158, 88126048, -131966627, 3506343, -56906473], [-792899396, -26659108168500468, -1718093719937064378, 138666194, -289444862, 211037414, 618670750, -276250934, 131466366, -161952222, -22701930], [-2972070885, -3269776736537379, 293002016164327460, -157529196, 62522252, -385875363, 731421748, -11794472, -96532340, -103276040, 224915205], [233669574, 5148959867047358, -1641546399369545526, 972737107, 244893102, 570684058, -189547854, 9844300, -59113627, 52241048, -122084630], [-745351107, 182567683716157, 559090169922671663, -204554134, 409001349, -291400414, 643920651, -244427995, -172836186, -12634589, 33611698], [-2214360887, -25220033405765325, -575402152896179429, -186047037, -156112983, 296954736, 126001191, -138671347, -113489547, 67049785, -50799888], [-541530291, -3228028958350846, -1836163962410880287, 237038296, -150800341, -751441736, 72748613, -104744618, -124437272, 4806215, -73033608], [702746926, 26520803139213663, -395147812834061160, 95508998, -231231864, -348680690, 486913016, 93687855, 28010602, 190350618, -27361026]], [-389091457, -245388161, -2266568439, -905490958, 1620103141, -3498299431, 421756900, 2661531853, -3668452007, 662682604, -456912])
theorem ok_ctBm55 : okB (-55) ctBm55 = true := by decide +kernel
def ctBm53 : Cert := ([[1330067336, -21003991604716068, -568030611851840566, 1258523067, 141348526, -559476859, 627409330, 221934033, 184173117, -91896555, -13442195], [1772593810, -15256833022610633, 334135139150039160, -96340277, -947627736, 609947157, -53527720, 324722262, 209757101, -214416841, -165543299], [1260416006, 13979861388376695, 1470750313444646685, 202593681, 598564031, -17917679, 231666673, -142421262, -13372073, 135138655, 359764569], [464534941, 14700925594667602, -161216723477059920, -283863315, -259686000, -840755260, 39988080, -148331406, -205512357, -69763745, -226936604], [1012214768, 21210268296771739, 260072997933085499, 1240232616, 357980425, 402349326, -204161849, 157392435, -4759144, 17686090, -130545666], [-128897033, -16995622008838339, 1798828869414725534, -383287243, 295654090, 177764428, 108132950, -286378977, -22659757, -230821079, 186459052], [-849833176, 25619025354333127, -783418996165337907, 629490120, 636787535, -1086780144, -411471263, 173491161, -122964104, -34120940, -17727088], [996759328, -25435172463017869, 773938865403712397, -677156965, 255350159, 372062523, 207137825, 17338416, 104564573, -38736561, -243975341], [1092872176, -17753568981484744, -835068599523077240, 673962576, -371631400, -621161057, -749252440, 87931679, 74929712, 17784903, -150071849], [-1372975529, 13454768243701185, 1149704657241946443, -677623408, -428842055, 239831691, 208509207, -34721070, 237902064, 87502352, -12430557], [333267312, 32016618004492137, -1570059800762068165, -135199911, -31917815, -285607577, -255583033, -45230746, 148054223, 62804483, -48607777]], [-243757775, 2482741067, 4235758473, 1829856063, -361934084, -1022127167, -1210339448, 1780769751, 560849886, -3144509618, 2046301566])
theorem ok_ctBm53 : okB (-53) ctBm53 = true := by decide +kernel
def ctBm51 : Cert := ([[-2032279893, -24274125507893607, 641341520086779233, -842690680, -422444117, -80297650, 449387205, -152345707, -50790472, 188269349, 20102718], [-3959316757, -6105751638897916, -410426124589159905, -350734112, -783087915, 23735717, -347561285, 51385673, 8774176, -283284102, -113112435], [-1492053826, -8890083534783447, -2086839601821109124, -568555629, 278077268, 204402965, -390543636, -229405628, 66528293, 71562881, -160744067], [1821134719, -16356245055249802, 1630000895901284123, 1174790546, -100420695, -34071096, 335844391, -131528398, 15356350, 105031845, -85491192], [-428974578, -51344694414824515, -667185227524534667, 508839292, 611520903, -542125389, -177908311, -85746050, 51631332, 207895207, -68380021], [-1784777746, 15276709161175097, 2130225205726358854, -208581263, -112089854, -144886338, -699219554, 174179301, -90066825, -102932958, -168564178], [-1022390266, -19223943708775269, 283462080450741825, -753764174, -1162117813, -724934621, -352615643, 115263920, -38527074, -101748933, -119969925], [335279762, -27714368687343393, -729684558844610469, 130400756, 483352937, 513024570, -329354649, -99926213, -174020308, 187071174, 46204810], [-774960682, -23798387439947718, 456446392403941482, -448320783, -249040498, -24862288, -1045895982, -70093226, 163172087, -150142706, 22000432], [-276925086, 34091355197632686, -545098365960646506, 655257367, -846229134, 253009682, 171542574, 24827540, -7902655, 114477276, 124349730], [-620228791, -7108422839705997, 1116556614458064930, 273139660, -42073482, -812973265, -371387286, -73518396, -199245036, -39159132, -12379161]], [-2024462832, -2853349684, 589740354, 1454068139, -2303657746, -1426404990, 2944952749, 1011919270, 288294253, -1333855687, -417025495])
theorem ok_ctBm51 : okB (-51) ctBm51 = true := by decide +kernel
def ctBm49 : Cert := ([[3164096841, 2643382783040406, -4296463905218545977, 1044157436, -172284403, 48770564, 510831875, 47177006, -67147164, 138930987, 165196068], [-2492460832, 2857599585217982, 1996689542807756552, 633875835, -129722024, -168008681, -87090648, 141460849, 87434365, -120825649, 108057103], [-2648072420, 6148141240241024, 2157413467992650632, -152516284, 940407512, 216202573, 1322070184, 36041205, 15931996, 77223321, -124209803], [-492013081, 13840720745110252, 2907361247013400775, -862753475, -131095539, -465013249, 672108291, 6969739, 75160459, -24644768, -298352329], [521262717, -9442483298334688, -319170805534928627, -435948839, -531072497, 142066445, -792367199, -184017131, 166559055, 228662696, -118032075], [68554460, -4198014235319701, 372632588410643686, 406167192, -229451550, -105930919, -573545538, -195696570, -58224856, -73999787, -179724063], [-1584372660, -18883092258744031, 659293731094078132, -898090253, -971786308, -653692797, 91178756, 14866730, 41373637, 184117247, -158678309], [2250442440, -23936753399704526, -1173335036411025752, 609932097, 63077688, 580406025, -329839544, 82608575, 65341223, -238831575, 42806801], [419775377, 18074377522224971, 1328155380853671831, 421158276, -555383043, 626242500, -800921837, 183222633, -7880676, -107804909, -70011676], [-939311974, -5486775923469714, -198515402957055055, -263825073, -628301541, -88096717, 1266237525, -124067907, -27760951, -120099343, -61598709], [969080102, -4089742209293556, 2992369909388402381, -228803877, -518753969, 12151663, 398359649, 53392475, 23463453, 259750753, -56887769]], [541583480, -1293628051, -2297789587, 2450078478, -625078150, -190456925, -2065733059, 1423033720, -1293680420, -743913356, 2411968094])
theorem ok_ctBm49 : okB (-49) ctBm49 = true := by decide +kernel
def ctBm47 : Cert := ([[-1429942013, -52929823512296515, -341750156838871940, 187411288, -1143351468, 1020355166, 242454252, -91873343, -34819992, -234336207, -74353714], [293451909, -7333223056321627, -3324065654126823761, 612115999, 81811717, 601848244, -300478581, -2025505, 174345849, 170959173, 152559188], [1763431447, 5686850772099204, -2315144693462561936, 312220500, -227396144, -827252757, -387675344, 124238015, 212442828, 124752756, -85582973], [-387187458, -41739993472162311, 251168566038575731, -198211916, 2638961, -228866136, -405480993, -93232417, -229322132, -240271320, 174809832], [1682761683, 72606681149424763, -1044888737321618522, 658746814, 117234466, -249932721, -346565250, -94426532, 2676594, 104268030, -36549113], [-37791949, 45583064337245581, -1918405515477192696, -111613623, 108074072, 5723904, 192024360, 178500643, 214967391, -82530413, -3191040], [661371348, -24016702847434976, 2504157079049067014, -182783532, -333876926, -186514053, 259623262, -97183629, 73788492, -110563009, 123902355], [675450648, 12717877752112156, -93888406430089235, -248149911, 457338287, -1012623596, -501514751, -279645480, 59583039, 493988, -35819852], [46820592, 15553829062802018, -1536234748795303846, 39045195, 246069470, -573742075, 674944642, -180892053, -96997843, 138522969, -22201363], [-47906377, 26322118516845555, 111431899720050783, 691430411, 643552149, -550985170, 200544763, 98171, 71473261, -93472639, -98841058], [-1404212606, 5928891237276035, 939094114995267546, 244323752, -551169186, 125195315, -242514942, 33360600, -89786728, 7416851, 142493707]], [-731625398, -374608096, 1405281263, 2233315721, 4436461553, -1150380332, 3299843829, -3571602717, -636254763, -2099540408, -6086921100])
theorem ok_ctBm47 : okB (-47) ctBm47 = true := by decide +kernel
def ctBm45 : Cert := ([[-125062924, 14581982891757838, 1679936925086210036, 363475122, -578510468, 538916277, -1160074940, -93933009, 108996510, -319173935, 114794269], [-350111319, 342416721287432, 2114428597190104243, 275795072, 1149715761, -434970805, 366368031, 219267163, -7157888, -67674422, 175037923], [-240941050, 11455231081457873, -3607471277447362958, 134000933, 1147301862, -849549328, 730900986, 90402575, 66350563, -15451594, 37739376], [-833973719, 28834178869663911, 622367460276590963, -171477318, -1154344591, 475179748, 174363871, -347765651, 41325782, 101508095, 6569220], [-1372391436, 1533739065039800, 876359514025511489, -257610676, -390420149, 440207687, -903997659, -62504569, 81212052, 53595691, 173884607], [136764670, 4345073416505019, -868910322928241841, 993422808, -1154481179, 843006770, -200774997, -10444713, 139784680, 175471176, -6763966], [1299902804, -11103099259021887, 1780745244613062206, -839834298, 554691498, -406896584, -536426634, -257684569, 28323626, -55382448, 21580792], [-922302082, -8297509063003392, -1241545789068292294, 154860931, 1075934334, 558555005, 714775778, 84273701, 82319285, 47691847, 15207717], [176300465, -11111293565517990, 867167691804430270, 26639019, -211018710, -28160359, 352272118, 272018471, 195080909, 68650008, -169199071], [612195410, 12037013850694695, -1872227384299350058, -339155889, -420052686, 469281107, 705873006, -141696492, 70669257, -9432019, 141270571], [-997080855, -41408017186193742, 276133706251248270, 522054376, -808873190, 207092524, -255507706, 23340730, 39895896, -84847637, -12425844]], [-34764295, 536403360, -1854893456, -4044979564, -3054433913, 3828687027, 2942208949, -2040747213, -210994919, 3295298936, -2414471293])
theorem ok_ctBm45 : okB (-45) ctBm45 = true := by decide +kernel
def ctBm43 : Cert := ([[3210419469, -32773773197837954, 182555231554714653, 1218097512, 158571455, 201595067, 500262129, -277134731, -104292136, -52266718, -333924653], [-2070483569, -31952824009313570, 345953860062926168, -668788701, -1532160312, 597070328, 183738296, 24627194, -48247275, 122897061, 228031416], [-1145868611, 44608854217234821, 1591318132961873095, -201645051, 542300173, 214187307, -341271805, -122193810, 317433347, 145979112, 172298947], [184342610, 11261091287444747, -605460850631965795, 897708022, -57610689, -383897712, -526820751, -160277803, -146326534, 71928268, -382494704], [819939181, -20568175440875757, -303428919431720108, 1212762767, -216899940, -37289150, -55286236, -275217649, -284067959, -164210861, -125774126], [-1760054635, -4616687378748125, -413356202834696314, -848545819, -156154430, 239525184, 778411230, 87137389, 632099, 261150905, 251705152], [1343864566, 8218435719481318, 1212597910962729270, 318694911, -164362158, -889401571, 530175822, 108405887, -16875111, -194348181, -110120507], [3359758102, 3885224611490768, 354499203651147736, 527535173, -137219512, 8484238, 161848376, -53996626, -221145149, -106119000, -9223042], [-585191427, 9777949568538065, -24231180096925852, -1066443570, -148423860, -662100210, -142995340, -53479267, 171230946, 61855963, 166961662], [1487469851, 13102773135859586, -1970231258810267279, 348794175, -155535269, -84651313, 322333973, -9655323, 33696857, -111988336, -96132985], [-327508104, -2924690569040727, 151133183214150390, -587894362, -379860078, 549559725, 437966862, -64162020, -154277430, -74570697, -86892331]], [1788276771, 361990186, -640348233, -200922666, -3232287684, -1138072976, -1397030415, 4550126040, 1544572428, 367632194, -1077036541])
theorem ok_ctBm43 : okB (-43) ctBm43 = true := by decide +kernel
def ctBm41 : Cert := ([[-1289253844, 1524034266551536, -1471591058678513244, -556672741, -590363636, -464762333, 184845236, -117054069, -42520099, 478229775, -54386309], [-1091498643, -32551675484430457, -473136156152838709, -262298322, -53072583, -977677201, -1009825897, 87427504, 223798658, 31530562, 95577895], [-2221822459, 30300341561629815, -944617883967145721, -75635005, 603414221, 368856441, -366972861, -194079078, 85848181, -120095612, 77256705], [1496233555, 5389400857473099, -297790589448519059, 991245678, 691751215, -351158750, -379209087, 120568887, 162787138, -21350489, 148181170], [-807295672, 19064134044836530, 2032756070859322277, -50840131, -247053673, 341730802, 433793433, 35237936, 59686667, -13527030, 145625858], [740686971, -41841582117677349, -259966323242904283, 180005357, -430410985, -544478898, 385720601, 3316275, 69846619, -170678005, 162473534], [548732412, 30699478952664219, 273713751985534857, 354865293, -22495389, 210705908, 280948877, 46286537, 249712827, -120754288, -212282220], [1061371895, 25201372395346273, 90744639881827239, -807766701, -10234963, -433338407, 425861475, 98688880, 114281573, -166284830, 49769825], [1209476717, -3304638162223311, 2022594605776598558, 131355116, 374043210, -359849350, 242889430, -64986871, 167532020, -145011851, -24430134], [-1180288784, 17167528193741040, 930889352240889621, 614681134, -740181913, -331689291, -46500663, -116626387, 42223746, -114041427, -73800675], [-1394280264, 9165265259913691, 56116435249092999, 21806085, 543425613, -187480544, 429130435, 5769237, -75510269, -98593120, -161575136]], [-197931133, -2262436236, -1136192627, 745265638, -3359155435, -941119762, -632062848, 1844828243, 2297269606, -47184751, -4032508530])
theorem ok_ctBm41 : okB (-41) ctBm41 = true := by decide +kernel
def ctBm39 : Cert := ([[-2356891186, -38941258241203100, -2742876064252496687, 455258855, -93272709, -15173311, 351328757, 7258981, -238210319, 41831987, -154576887], [-2033169126, 6603256251003139, -2510140428490121000, -749972528, -30845624, -452327624, -139826888, 12877381, 39073968, -59457456, 133925624], [2671501305, -32324012992023673, 343394729661409679, -95164370, 633485477, -186107417, -57478677, -279953176, 25418370, -175089600, 146600543], [661056412, 10879849873439458, 1969433658684718974, 476144440, 431638890, -364698886, -475466314, -324278200, 4762504, -78223814, -16540086], [342271466, -6659448270575217, 473089981253105952, 771597059, -775748512, -289185818, -5080672, -197875817, 73707061, 101778534, -136273002], [-1441220808, 10928922224307836, -1054949958755070519, 87899470, 251548707, 304109119, 431232973, 146601787, 135141986, -187864153, -109079689], [956312692, 32592609029724742, -588944380517968797, 289460460, 433166785, -600580752, 447126927, -197286070, -124031244, 30241504, 252484848], [-1328711587, 6511830732590051, 797196577619633248, -683937520, -308215776, 760413533, 441215456, 63765618, 78019952, 81878122, 81461765], [29639402, -28043529646525072, 203863354845564562, 146098949, -143910586, -943166312, 763825818, -344344, -83273981, -67315730, 144352088], [873554153, 13792681113485379, 723563469565751200, -675140411, -689333280, 640238749, -106055136, -9731246, 4598595, -151710818, -77728955], [-311924336, 1325740550403014, 15946294560715485, 419951831, -484551169, 354054623, -8806735, 57826545, -149276031, 552235, 232899607]], [-1407480115, -2137995594, 1876763334, -4439229776, 662662696, -984739511, 1733188162, -2881556205, -966454512, 1452003961, -1062251382])
theorem ok_ctBm39 : okB (-39) ctBm39 = true := by decide +kernel
def ctBm37 : Cert := ([[-300678214, 52484104009850957, -201398899583954300, 509766974, 981708204, -1457706061, -176194540, -98821650, 58975218, 86851525, 4946827], [412460396, 1195931879606514, -339249806792346053, -438464342, -322160119, 1694272199, -88069177, 48489773, 2786406, 39879067, 275771967], [-197915866, 5929264704775582, -652583830515613365, 44589805, -73630791, -487448801, -284098281, 76798169, -224971429, 182560265, -220869801], [1324884558, -5478929812649211, -844555463554271550, 167843305, -911201450, -328206047, -228765302, -201467116, -102819649, -13593041, -170377495], [-1106469903, 55220417083542453, 782551799706900009, -134442600, 633069635, -628877059, 139703725, -186823904, -47492056, -124783080, -93572443], [-1081286834, -9361823753563320, 75761930423406679, -986413612, -263698627, 1239237662, -919143725, 139253702, 189823052, 40770560, -26954866], [1253871605, 23235083585442827, 474544291206406805, -297415266, 302776039, 1330573315, -587352503, 34179616, 184724114, 93972002, -158736805], [638263431, -15002405733664617, 2009857679049977798, -1049523524, 31703170, 74100993, -525877730, 64679490, -33246812, 35558926, -85058103], [-1869285705, -8828923957912200, -1143622282071783808, 9770635, 1172883328, 395144901, -134737792, -88527947, 15755757, 9311142, -38228819], [919373260, 13825795217309537, -595696789623635188, -855017069, 601311108, 272252818, 56966588, 106388913, 215777829, -33326598, -83463774], [-1609235889, -1337233698359139, 897984006156108323, 13866167, 307327233, -495284535, 632408655, -174647068, -16347743, 153227814, -8691759]], [1268100721, 1483594272, -956396431, 1891729348, -2181995726, -4455308575, 1634030152, 2706304560, -108052232, 1882217787, -1603296260])
theorem ok_ctBm37 : okB (-37) ctBm37 = true := by decide +kernel
def ctBm35 : Cert := ([[3403896642, 20658122232132789, 237762024977884076, 304683279, 434585188, -402958643, 728894684, -125658512, 110202121, 51389, 181205749], [-2829060057, 19183408160268148, 1727609947312027509, -547743621, 234525831, 454524295, -411581783, -210066869, -29118083, 56853136, 58428159], [1058357184, -42059465948924163, -1942223910029781296, 677745455, 70673136, 330100809, -1202006000, 10015236, -189288471, 23421387, -46142127], [-1652280103, -1450385566643190, 1022415437759880867, 65768622, 143338113, -616671418, 1019906255, 24445004, -89454078, -270171679, -65643018], [1379485764, -8699591751744720, -2804003166165443530, -436239151, 352428370, -12946170, 276762190, -94762106, -21694441, 64237202, -168248906], [-573076656, 29561282359143561, 697758706142281240, -449538768, -599050488, 456500951, -782609544, 64791350, 13731408, -139589423, 193542863], [1047852092, -62060817727982131, -10846777142679417, 221662738, -488396467, 21143365, -277942845, 5992976, 147454270, -16200693, 172867885], [1020924588, -1216293262420152, -1622499320740653186, 226237678, -112963222, -706052200, 882470326, -123801968, 139924418, 171175548, 185044568], [-595806145, -20846992547256049, 218072407826790370, 166447519, -655964234, 1020059779, -448548054, -78790820, -143976711, 59470282, -155340069], [-623956125, 12672272743173941, -817588981535514453, 185522155, -5487399, -669086628, 470839799, -136462025, 234370957, -53825389, -58383300], [445850027, 4223652482161473, 585265869815501198, -410786115, -379447270, -1051429419, -51556858, -9561492, -16269813, -44954908, -11831235]], [3540763275, -1544951808, -559883993, -1231425895, 1154773791, -57010488, 484021459, -2063578427, 1205709167, -888633666, 1613316774])
theorem ok_ctBm35 : okB (-35) ctBm35 = true := by decide +kernel
def ctBm33 : Cert := ([[-270029952, 106506505205226907, -967358894267204223, -1354184849, 1207139595, 29022462, -234311835, 194099363, 63157673, -61428402, 78518126], [959142393, -24448016134036535, -1270840435879317184, 1307749216, 196607424, -832183862, -424243648, -46363455, -100797536, -103252239, -13586534], [366185966, 25146799973544753, -2693137138308640850, -258096019, -533802118, -418479028, -509853530, -307625237, -77762597, -99162242, -109277268], [1445380651, -68161655048040921, 1641360908607316125, 342203491, 1007447359, 702169569, 21662577, 54794130, 328661, -6327058, -62497367], [510229662, 15084436946136825, -741912567272051561, -206872575, 181231101, -862913892, 992690195, 67378035, 28551271, 85348254, -115428228], [1068997178, -4943029676955508, 78308834961152984, 890654292, -903209400, -91754009, 409694264, -139867373, -43244596, -218382459, 17066591], [-1539388516, 29365692694064868, -1214420962658570988, 638679148, -418719268, -506390088, 814100196, -181155244, -37039244, -87303780, -77393544], [485942966, -40105211237728897, 151175773157065083, 499718422, 208999881, 1082533574, -57328633, 186655367, -47069222, 25702336, 136726902], [-266234776, 15244689755186508, -932555307053176123, 485945764, -795709193, -198170307, -126904007, -81351463, 166222076, -38936195, -166857499], [497645887, 21762267630555890, 494270700161736280, 577226181, -382682680, -452697863, 36957368, -89509777, -173098429, 100753618, -164616319], [-276116076, -779901441350715, -767266354866919217, -674326642, 244977765, -314003827, -449067477, 112375840, -77895134, -173811839, -73539403]], [1456020819, 304656037, 2491051998, 1067072638, 3476188404, 4167917061, -5511868964, 668723861, -11219659, 811079999, -2345235479])
theorem ok_ctBm33 : okB (-33) ctBm33 = true := by decide +kernel
def ctBm31 : Cert := ([[2046329956, -28992042469138183, -921843987432480701, 336699880, -239481759, -357986463, 776412399, -285946848, -299408296, -156856685, -378521815], [-2263019589, 30887975427696900, -731431073510128876, 857126456, -611480612, 135392455, 104930532, 213266683, 232067208, 89747468, 134341695], [2627409, -25704494445820026, 269764054741078500, -231968392, 764827340, -175883958, 134352116, 366185524, 225273672, 57294189, 265380634], [-550758975, -41973531894226463, -440924042618405868, -307185808, 163299036, -526448726, -346826268, -186266103, -69906928, 58451879, -322769798], [1075049422, 24892518858966043, -860033099327553818, 59952849, -83708190, 14555809, -723524162, 245423902, -12075497, -134750459, 75926633], [14670514, -35351852931135712, -769318353428627531, 832895914, -1085911225, 95527861, 155493353, -221449219, -121728666, -19549045, 71826717], [770458139, 21996552849979491, -251577117224705226, 106985921, -1574408622, 46591424, 27742542, -19861075, 23004327, 165122927, -60838976], [519894103, 1656214828477630, 331369093898403791, -250677247, -25981595, 657660817, 320362795, 88886587, 293982311, -98203178, 34998489], [-1894020558, -26604320856242590, -178157080473656897, -480063916, 188644021, 637172857, 63964379, 125142399, 36938700, 193108587, -53887231], [339809377, -33653734047860965, 1566211995445846461, 30649817, -8713825, -624521337, -109515503, 11623604, -128337329, -155816168, -59200257], [-1231587706, 4934863963624835, -894374368805871635, -425183896, 67521967, -342556034, 86875649, -96291909, -44516136, -188274558, -28398354]], [1124736615, -2639845098, 1856651767, 320284240, 1225883775, 102116744, 1224491395, 916455378, -2543118102, -1965367556, -2804941457])
theorem ok_ctBm31 : okB (-31) ctBm31 = true := by decide +kernel
def ctBm29 : Cert := ([[14504195, 65086591794204326, -3346731108701723046, 13321744, -134987042, 1334988788, -275092350, 325695118, -134631312, -237577911, -35449196], [1135581544, -22257411702864160, -773312007981547896, -376967286, 1229829080, 850637726, -906901592, 86465070, -189943674, 120364454, 66076430], [828676845, 32777999267331381, 480014270033360684, -154689292, -80653084, 982583011, -705266084, -38821066, -296132052, 135727050, 50680891], [91548736, 32770267701146925, 115591878102650421, 160458290, 16740039, -194695221, -682632087, 197778918, -104157666, 15470543, 249696867], [-535407660, -58583497987792127, 101494263671104915, 56967275, -765071663, 29444300, 465735039, 108943003, 201343757, 154103284, 167434284], [2646048631, 38659458473830127, -381838619369473677, 263752877, -369034895, 691738491, -472140577, 31718452, 90571163, 34449744, 31046547], [1180657575, 29392550153287425, -283207367334769416, -618431989, -685208920, -43467981, 132841944, 258756986, 55997037, 24464144, -45275381], [-825907483, 2567136811706436, -1673835879471860696, -512070020, 39948728, -508523496, 20963272, -137684908, -122268700, -188988717, 29974232], [1574842, -4042302518933124, 194953708871415471, -883538686, -32761595, 436976717, -69775477, 121324857, -77737010, -240861909, 57846901], [-1060501649, 9910092097066501, 303116354094082127, -277088939, -36861211, 210410127, -376302677, -25602190, 105536819, 69562228, 35288647], [108993014, 30430829467799236, 257503025118736172, -218683423, 450460900, 2347231, 395499100, 20760083, -9432185, 11892913, 77159191]], [-1823360742, 1345401783, -651621789, -444681308, -166146378, 4395029687, 1257993034, 885121328, 694181255, -4712849664, 498599357])
theorem ok_ctBm29 : okB (-29) ctBm29 = true := by decide +kernel
def ctBm27 : Cert := ([[955535836, 9776878557519897, 284167660113396222, 482927217, -701242134, -393613031, -185699786, 90285176, 212247415, -321079761, -84750175], [-55725010, -109719638915598754, -736159374701450722, -483084974, 885698122, 1321796291, -204359978, -12032035, 90145790, -27653927, 96835355], [276072516, 18305155991571831, 734125813032481062, 1631015644, -334626910, -537376979, 304322814, -100895762, 215561860, -76806329, -65849771], [-1137874512, 75293773121948038, -656410815462096341, -487508443, 1065923929, 371219124, -698570377, 5967470, 8253667, 98868736, 44861268], [1237769958, 46275400699288958, 18423057455083044, 271707162, -719114868, -655091146, 479892020, -226536440, -17379722, -179968212, -102355866], [-973010656, 49895069903424034, -472773341194225449, -39321518, -856423235, -441245435, -148179629, -11253845, 68858110, -57061759, -241000211], [116008804, -16669404921980518, -1558907465603020586, 164588763, 1236753458, 70783443, 144660846, 34012785, 102474781, 13459947, -144266581], [306519056, -22882566189688762, -454206882131685222, -652452011, 11154334, 485038100, 1119877058, 19604494, 153420595, 21403008, -70600780], [491155623, -1337787541582717, -1407695874072122417, -509263956, -612617883, -793019588, 122615083, -11021847, 75103796, 20506227, 62140956], [-1094647120, 2782516064654592, -1065923030066900014, 697739465, 103658246, -442136812, 107528410, -23955020, 61092063, -247167228, 39444148], [-207251420, 17981680749226879, -1405782396009159668, 936649104, -63802748, 626027569, 335577788, -60841590, 57016560, -30817445, 26269305]], [4017214612, -948816905, -1546019507, -585551175, 2772753243, -4289396183, 3137455824, -1914359028, 1628491172, -6047347215, 2347820759])
theorem ok_ctBm27 : okB (-27) ctBm27 = true := by decide +kernel
def ctBm25 : Cert := ([[611268892, 104896762786459743, 1619156868932497524, 726139889, -980390148, 88125292, -635202620, 12628989, -86434313, -230333096, -57611316], [1210697618, 59092545313079293, -1890033350446576807, -867457915, -817151661, 152773633, -890480227, 56341628, -11314813, 15106767, -123442999], [-658794816, 29292092667631351, -383029632339142206, 276005886, 1505406038, -1027959722, -570023798, 15231903, 18484018, 112343662, -91713658], [-1667089852, -786263531638019, 387105186228930682, -837928571, -428635586, 710256673, 451318562, -55144804, 155536515, 35165597, 113944041], [1139387179, 17377319860024308, 664681468399231444, -229259141, -1087848932, -232621776, 390487716, 75374972, -16285315, -1638667, 269215408], [-1765458650, -53865064734707256, -1050740968187076749, 160156505, 303520625, -61876673, -155585825, 81785135, -195454769, 8599857, 113972087], [-130994899, -61193783806144526, 1232868162900199473, 174162421, 672746139, -455691184, -56209707, -175698242, -49614445, 140264771, 125752016], [-374024645, -70991488205028696, 1288362598692352553, 81335241, 236426307, -242163995, -86228563, -59767643, 246758879, 95784162, -19909171], [-1081087540, -9233082827313310, 1386755754063389345, 306373686, 739632491, 337366673, -34142971, 11231575, 9142714, 239003261, -50949159], [659044737, -2826329507470423, 2013281104798868094, -323166067, 833636970, -100738828, -276937546, 93460187, -54345541, -36613349, -44128364], [-266979718, 5948699720151335, 967875434189064888, -284458621, 7901672, -433183290, -12255592, -15030433, -1231947, 94688772, -202801034]], [-2153351762, 1283795294, -1971835304, -4218559073, 793498049, -4322344886, 1102640783, -719433090, 527830025, 1598863118, -2750101411])
theorem ok_ctBm25 : okB (-25) ctBm25 = true := by decide +kernel
def ctBm23 : Cert := ([[-1906940765, 41673037640033311, 1046389948496647819, 9809649, -726039175, 465955334, -369474729, -200503513, -93263113, 73910637, 82548406], [869926773, 24350749525057783, -1982945682892938905, -109681580, 1091570413, -504925665, -180425181, -91740048, 12910028, -153679828, 2094679], [1640112892, 50721150356133389, 1805666630069295490, 659833282, -867825258, -202715890, 513910602, -17963871, -25918194, -58695616, 49739774], [-267332828, -5378874923922955, -1828911839232262652, 363771769, 789728300, 78650560, 453109140, -160503557, 96967087, -29619382, -233729344], [856325526, 23396134192815296, 88804812620386477, 826312523, -623884817, 782183920, 157546945, -16250704, 24168237, -136913542, 253809008], [-672460483, -24953082785434850, 1733745509537643836, 321721103, -331243628, 885182660, -666035540, 42656230, 251339529, -54185621, 187005412], [573687525, -35700596929337473, 358926130765769016, -802145024, -111959704, -454573767, 941180696, -77035310, 89164544, 99285974, 176142785], [1348975799, -13181051900524906, -308055750510245680, 18345235, -500021008, 596712957, -315043312, -38539089, 306772645, 92915426, 56172453], [-1025085546, 20814964864465755, -715631326240264986, 313771523, -140316446, -839465907, -410006594, 38976490, -87768267, 188484081, -65276811], [1048906027, -12456766144696259, -205566982285821993, 884441894, 716011965, 58742986, 97325139, -64350707, -160500662, -35604451, -55304550], [26906858, 42738443263937747, -137348529040330136, 256801947, 591879800, 645329641, -367112440, 66588526, 79231581, 198149161, -77955855]], [-572391576, 1196379504, 1445073719, -3605463957, -1678677491, -3077785223, -699268037, 4987208259, -2414982948, 3382345375, -54307394])
theorem ok_ctBm23 : okB (-23) ctBm23 = true := by decide +kernel
def ctBm21 : Cert := ([[458351437, -71519985389437708, -703434867517922488, 39462416, -305223656, -785051991, -218896536, -201676675, 259379312, 85234532, 21317297], [85420692, 35747481373836796, -933938557603177660, 597661159, 437431788, 28165754, 752570324, -73051634, 52725745, -121593946, -230949430], [-476463052, 20794188897796077, -416436337373608146, 780429945, 98547194, -371160241, -182606298, 165081546, -245719377, 153615703, 70221063], [-2088082421, 4051813667683686, 1381928802530456557, 215278500, -2004561, -182972186, 276775425, 43680208, -70994180, -93171565, 239312022], [-2569111191, -23319387494043256, 1358639963234743358, -811342765, 630074794, -317122978, -778885770, 24889798, -61639323, 194077237, -47331378], [489367019, -37615215284328292, -1315169266883628912, -227018995, -787145168, 324082290, 939155664, 93061926, 62705211, -38455465, -48247934], [-1139849754, -33977298899042611, 111525783888677139, 489598854, 403518801, 626220074, 169398015, 190209245, -3879190, -130641544, 12272890], [1063886598, -28228640001440973, -822432051911928822, 210489527, 50762094, -164648252, 664722162, 206940673, -133779039, -167206726, -96164892], [867599617, -13465680917169169, -2269090060098541351, 277479010, 71239123, -30597559, 562527517, -29022478, -117937810, -59827860, 140249937], [691250537, 40965466388499630, -469467728701725532, 121717271, 136971532, -261205800, 428446388, 99084042, 177360705, -155475337, 204724632], [1148108883, -38423567828925859, 1196910140575811317, 166581872, 501645063, -115990201, 327721001, -122515438, 23381776, 165209088, 36773055]], [-942787870, -2668062564, -752500528, -2979750853, -2544414453, -2001097483, -1144263981, 2525751941, -541503971, 960286089, 2424222247])
theorem ok_ctBm21 : okB (-21) ctBm21 = true := by decide +kernel
def ctBm19 : Cert := ([[2181723903, -94260555689352303, 1312930975498790550, 870078893, 388580210, 389525330, 1057846830, 6437953, -298484581, -90155771, -92655774], [-548548015, -15606901845440846, -1277938770370918251, 324550327, -192126745, -14343149, -997067703, 14317593, 397865889, -36570610, -44368149], [1398402449, 4198431543541285, -645690882100440695, 584504959, -282206877, 140532844, 1415393933, 132982743, -26983143, 13263653, 96714956], [-100071535, -66653216051460190, 1420962961444100916, -395296171, 21816636, 353874729, -153562748, -130961, 318593075, -73736204, 64646961], [877570858, 51017021200213109, 2672608222057102361, 471882406, 581302675, -428876838, 537785693, -12920347, -128341814, -76533062, -58702294], [-454189858, 26228262921668746, -814779360482132582, -366292026, -243195234, 869731753, -830949182, 61725575, 173630634, 143600231, -179143247], [1248381259, -13863773687468282, 291144218803775586, -115355410, -418210506, 602058381, -809036374, 131279439, -187400254, 69617446, 42459317], [-2728924571, 12630432675759263, -1171817585223546120, -67639021, 360608936, -540093425, -365152296, 93367224, 38231717, 119033568, -96363577], [-89925947, 18258411541828392, -1959206572127082868, -759774435, 546835972, 80282241, -619053252, 6492577, -10393429, 107827396, -910519], [202772209, 8719027460956833, -328141006575273588, 359969086, -12640508, 968680485, 21184060, 125716956, -33734670, -163712962, 73225485], [769878632, -22004229419000903, -524059138995939524, 619213449, 259636628, 402150321, 304635052, -65247184, -2466529, 58674995, 158571001]], [1035731490, 3430428491, 2628359957, -452249918, 2245202298, -453958656, 1875611763, -4351088836, 4215565339, -2496589120, -1504646797])
theorem ok_ctBm19 : okB (-19) ctBm19 = true := by decide +kernel
def ctBm17 : Cert := ([[-1481341066, -13227079013150289, 592162205422976038, 105879151, -1127679838, -235029921, 1382641662, 157071992, -34013527, -3326415, -49827689], [-3041169459, -66611629763046041, 1953317198940163934, -399251786, -193042422, 188473443, 717965590, -91817884, -57179334, -56775858, -12576325], [596064703, 100983443968173095, 41868489498395659, -200464332, -209683975, -354375661, 97597143, 143058644, -242430740, -6302996, 103129835], [1685555228, 65257020158889097, -123726900143661166, 301930512, -569797562, 758984578, -1006042214, 145710457, 40054384, 184044998, 130192658], [665320638, -145079483899755619, -462852453188451394, 66791402, 330799146, -190784603, 119440118, -64985440, -87269594, -105629889, 94939277], [2653757, -88525927470988973, -1002859305356985310, -1117449495, 105059958, 482671844, 403325034, 66434305, 117564351, 25192935, 128884484], [-1361577992, 22599203082335191, 1270269242667439644, -13341779, -486432460, -733384718, -141853940, -236655045, -13321573, 37815290, -140448510], [1185936980, -61981344604147666, -147824892170800370, -956078990, 608356506, 142975504, 340346246, 96432258, -83822114, 36658908, -100237680], [-2161483021, -35470343901484844, -515428077100948024, 194510176, 110936984, -877258989, 332194792, -3616297, -233705056, -843704, -61486613], [-1686731772, -35555527472182538, 606886532891094674, -722237603, -164988602, -327714080, 208055962, 102371466, -67740053, -131401220, -176752160], [-752886049, 18636274445113795, 29845485725417070, 14622779, -634325574, 108458789, 448107110, -125470054, -217591875, -66002258, -141616115]], [1578892902, -2343333605, 1379483450, -467493867, 3035474720, -1635409154, 1855433996, 2902097565, -4057525395, -1206219098, 146871278])
theorem ok_ctBm17 : okB (-17) ctBm17 = true := by decide +kernel
def ctBm15 : Cert := ([[1021407895, -68640190699975314, -755837708128111661, -438930964, -123786351, 1176289968, 19958975, 105151714, -304663052, -15735635, 23436336], [-2078558492, 61730638040919759, 1415858789491065723, -80734458, 220752841, -838049379, 199149063, -134348026, -40799382, -5344365, 230930501], [-847853106, -34088574441577368, 1030130408540431193, -1329964365, 599886163, 106037152, 260346269, -48994888, 135271941, 125489954, 74724512], [3295752286, -92424601015610713, -1375287509912429826, -239412537, 308656106, 83494913, 16748342, 20683314, -230408687, -38761651, 112553161], [-2254319170, -17850911189294127, 342942814258219295, -767080317, -424256555, -240179247, 402054587, 68816824, 187843765, -115345079, -59463911], [178290029, 28078764798186778, 1815661007288442229, -272950047, -507267449, 458469064, 213860521, 19741518, 300918407, 14271415, -47162616], [-1320859007, -7792387916073268, 1055098241680651088, -237058763, 4578416, -879833083, -743844208, -66382239, -91553709, 43579076, -88406035], [1467486286, 63231804019243173, 43405952307727941, 434882762, 402061175, -303834139, 703371961, 71016280, -73131706, -70378875, -124986675], [1653171738, 65594730712230290, -1575789927952542000, 32644084, 222552816, 102581774, -402302960, 83063116, 4775724, -151269760, 43776254], [628148458, 34893760380885845, -185765051645895901, -393670855, -344259583, -254532037, 259467087, -17658066, -27334673, 189777487, -119975853], [688063586, 20585822660305431, -234423171193298656, 89854602, 119667808, 118746783, 94962080, -222526000, -4668026, -68216265, 1029847]], [-943255106, -73290793, -490338469, 3851097516, -1287074403, 3573008284, 887625274, 885639311, 998185384, 1005523388, 294043845])
theorem ok_ctBm15 : okB (-15) ctBm15 = true := by decide +kernel
def ctBm13 : Cert := ([[627511296, -140457066185202058, -2693222457472378086, 199885191, 556705566, -348037984, 128326722, -220693302, 74634577, 488178600, -25675360], [2525749688, -18363945065612021, -611590706167036310, -101946813, -510841970, 34831137, -450639150, 105071534, -139405067, 25306229, -75411223], [783335798, 103093781475956856, 1377244518987715381, -462118752, -383916601, -497089371, -67922583, 39349653, 133275744, 81246935, -88417907], [1180914408, -116161831280959878, 1003330182928097569, 587157143, 688592107, -74440220, -163893883, -242221846, 74274497, -163936812, -10310652], [-255626673, -52640285615991247, 2109129130095290428, 584051592, -124225388, -470545572, 340595116, -2688133, 117703608, 27238729, 134339388], [123443652, 36530554349790291, -1051211942322386105, -18061761, -607664243, -187703996, -224853117, 137235809, 126819161, 31960964, 161892964], [-340511808, -15589806442921623, 279508447241640405, 1043768986, 522600103, -129016744, 194814601, 60307103, 145872886, 2653956, -83631848], [1118118464, -64821193697703658, 126982406721468991, 163324623, 115804213, 468891321, 347615067, -32792117, 185104713, -28977527, -132089023], [837325490, 123860751845700139, 1562876537364309, 263019527, -239273177, 720162390, 19549705, -128404181, 48250577, 41499512, -65005178], [-8018113, -63818416172091353, -1039300118498137445, -202969826, -316216791, -444764334, 283764135, -71835829, -137210094, -124356217, -29495454], [-1033045355, 32722347711162093, -210817070727978889, 97145365, -625014627, 373422454, -354433165, -28716183, 45592179, 74253149, -72387162]], [341122371, 3387989082, 722544464, 900989778, 552426386, 1186351386, -664479953, 1094734204, 2506074283, -288949198, -4345628834])
theorem ok_ctBm13 : okB (-13) ctBm13 = true := by decide +kernel
def ctBm11 : Cert := ([[1241922648, 92852918825252680, -1242393609768449983, 263913181, -30764213, -1088028556, -344634075, 41069388, -34376981, -205278964, -265639148], [-491412668, -99332270879003723, -741904755595314310, -407378401, 162790206, 503150509, -1216056798, 136201040, -177303943, -227533437, -76002603], [-1100708328, 6058342687224097, -767791094259522395, -627646127, -390603369, 343052780, 456326809, -110903141, 41889687, 289572254, -82460084], [727386908, -86533834092006789, -1042070795612670743, -458073650, -527281533, 221639565, -396249235, -17916918, -116354590, 139938439, 60624309], [515151355, 25850659950589499, 1314517803834080756, 908210569, -78003332, -738994585, -1110038716, 128450932, -66177505, -49344350, -111357217], [452662127, 169963236464445907, 410225191904018705, -189856068, -307139525, -135275519, -705261771, 89089606, 128030116, 71202760, -7806775], [-100810756, -97481003375497932, -157876001480456373, 363174303, 952237497, -72425840, -470147305, 53267612, -38942983, 105122012, 6881040], [-236763829, 111704881032171354, 649072347301774232, -306269457, 266646408, 188212502, 1023491832, -56223668, -191793623, 97712463, 134739526], [1268693526, -9539909494363339, 304764932304544124, 258652547, 8572500, 273375708, -447428628, -17037641, -214091, -67247368, -247544388], [-136043630, 39318076611151208, -281004266934835810, 146639191, -86704950, 189700812, 152006742, 248625732, -171116031, 12800010, 58210860], [92070380, -5295297020845691, 716908368500729228, -604440329, 219742980, -336325622, 466393660, -19791483, 104063841, 84217728, -30989350]], [557271050, -3325196178, -5762457621, 5560269263, -3062102163, 1643726938, 1018783890, 502869139, 5309676295, 971506666, 2002109108])
theorem ok_ctBm11 : okB (-11) ctBm11 = true := by decide +kernel
def ctBm9 : Cert := ([[3371022144, -319811770340245317, 436440936753440082, -770798031, 96596870, 49317241, -430036902, -27522026, -116605513, -56560615, 3854337], [-1107971321, 298554222814996132, 205846839722977833, 661747321, -536871869, 614754397, 957110701, 21047841, 18510511, -307344658, -36436731], [1094139655, -226176677478221604, 399920323115223727, 18302534, -26086139, -100717853, -868600949, 74472351, 118453802, -6316060, 26187835], [-1013676667, -26518061519579919, -1709013987379466541, 130149539, -281316207, -209999078, 107877311, -151005975, -55882347, -144011171, 2817898], [-1485934048, 181609933427350261, 1225844084834881704, 1105880288, 692259640, 115111072, 425516616, -4225317, 7706144, -182334552, -224521824], [1709250395, -179118291013216807, -1027063461171948708, -347154905, 16392948, -543370514, 156681548, -91605259, 78209457, 16622683, 267457758], [355702138, 20002651066684176, 343372704208807117, -337478420, -900123825, -571629925, -636724639, -155621469, -49831180, 55419033, 145118131], [-166117535, -95937238483999017, -156474986827457024, -268395249, -829355520, -559683138, 720377344, -39281561, 73902345, 33360565, 29834798], [-1901911405, 87325583182753474, 617249813786455286, -219975429, 379533714, 239067704, 266586638, -55155178, 88755453, -109186939, -49250824], [-1025305763, 44990455353673458, 1171043103083158754, 123998937, -45146442, 59964973, -179074006, 60455491, -124101297, -86263432, 88663381], [-603878362, -107776287929020780, -56768533496600251, 245941349, 29450359, 341131318, 298189241, -106469230, 63581347, 92127488, 8716902]], [2156739955, 2044391080, -870011138, -2739793280, 1412902676, 1796817213, 1502472711, -1565369968, -2663443341, -4063089930, -1023981873])
theorem ok_ctBm9 : okB (-9) ctBm9 = true := by decide +kernel
def ctBm7 : Cert := ([[3678034381, -75290886239637234, 503849413037850167, -928404930, -162861091, -478123925, 424928307, 56015637, 1404658, 91965370, 39323651], [2000086648, 67022734729081028, -3820969921762344, -38151630, -560034232, -1082471608, 187301944, 128918660, 35150366, 182450600, 241679240], [-108261644, -169223062706700096, -306278890274993205, 697506684, -135532743, 763161198, -526637673, -183870562, 782052, -182433366, 229738590], [-1697833729, -40333042189447699, 339384195951456598, -778160442, 88742322, -494311241, 215765998, 17463922, 81672618, -126266770, -185601105], [-1026365768, -157031167327175344, -946768203700564710, 51567760, -146469602, 475655201, 540120642, 131116953, -8700432, 2344849, -105641495], [-2120964995, -8980294125044557, 406216800733005171, -321189217, -373686927, 738623980, -190844705, -108861719, -4833799, 42010385, -67292596], [-761769692, 112506139949438516, -1353858487529068333, -288474949, 98316945, 188810036, -395135553, -179738528, 117353277, -7054296, -75312172], [-296900961, -25921241156715475, -450137304546511922, 524348473, -529026854, 496331470, -825249466, 15444033, 21025519, -84585379, -52702274], [-387459750, -11551813063807895, -716910738674580303, -382404786, 311419931, 421778106, -735564459, 20387473, -24514462, -75238554, 82091018], [-214948132, -126847492142795219, 231694970341282128, 27781949, 516564592, -245816291, -160781168, 23800136, 61443467, 170333207, -52269371], [326747296, -144851898567211018, -930020934729946155, -52833904, 86672551, -173278483, -349160311, -15146561, -164638480, 29583225, -30255083]], [3774082314, -2113789444, -262793237, -2109644287, -694555822, -2541592654, 814711510, 1963321229, -974012823, -317546805, -497582624])
theorem ok_ctBm7 : okB (-7) ctBm7 = true := by decide +kernel
def ctBm5 : Cert := ([[1208397127, -307653281174039867, 565656450278024853, 817005482, -221222169, -697554309, -121697719, -191914242, 57690470, -126548624, 51226259], [677684227, -20048337118805092, 368538027273422582, 1082388105, 594368402, -147293086, 285805582, -64873066, -146194145, 37666159, 222392562], [1759047910, -335564540007044399, 716142231009885821, -192268201, 563881439, -352159559, 194995409, -77938976, -90217727, 660991, 214420801], [2843551392, 13648497836822991, 1045304985175198489, 538385870, 125869715, 154409442, 419291229, 91918899, 79392226, -27098418, 24517234], [473174914, -105291385442380653, 2035913878103597819, 277190520, 341067337, -529103746, -168119417, 1715627, 209432904, 96366552, 61193966], [1485631597, 411565392721708559, -219803361668239802, -317414908, -457805822, 757168615, 482764446, -15576608, -77770852, 100203998, -89116065], [-476546860, 24704040130482731, -726476599912112235, -9686262, -133915161, -382503017, -1163147447, -38707916, 94427398, -12523545, -51568241], [1232666347, 102676137015375539, 815612331154460021, -203885554, 2279047, 162717755, -272289623, 44512496, -160783966, -23196796, -203335085], [46525715, 271643712343909608, 222678541775714624, -335990185, -862022208, 60149674, -77105600, 64970002, 1440001, -151457001, -56232838], [-1142884681, 145298233889517967, -963428622060566632, -633873582, 334405512, -193769968, 129307384, -19741039, 13880830, -139665755, -2979184], [-437021596, -222657180057538943, 34480625565916292, -466407223, 201759660, 552282388, -446632428, -84145245, -52500257, -114957996, 13504692]], [563516611, -1376638985, 3219650700, 4018883398, -1807035599, 2033890229, 3085064581, 470707451, -896003232, 100476494, -1114824993])
theorem ok_ctBm5 : okB (-5) ctBm5 = true := by decide +kernel
def ctBm3 : Cert := ([[-827484328, 35492293136724175, -687896082581371546, -279901094, 832585314, 450577268, 14628414, 143371989, -310458314, -132468294, -35109356], [249677063, 57077597064872774, 1431165894130954110, 85407149, 613931370, -60230693, -516397642, 32183373, -205258597, 155147528, 163136243], [-563956760, -250580136842421643, 133888562386898353, -113072314, -645183717, -694199507, -73614763, 31729680, -74744534, 191062647, 135391829], [-1068285310, -360246140535377885, 612192154067486225, -412346653, 467198779, -519632006, -631158731, 145857783, -76264107, -72166578, -167302454], [809252563, 92402872623033421, 1158687631349697869, -4408750, 165146831, 16002025, 941446369, -164704172, 4294398, 119759976, 11550193], [186377840, 238443010301874762, -90001779870435579, -889368096, 309680055, 526348226, -297333127, -234938520, -25497312, 18296246, 116393810], [-1384033058, 73115857108875862, -145780488838743729, 207869083, 45221349, 240842340, 83691691, -97614386, 51339869, 71274418, 218465412], [882689446, -451310109335277623, -247746879008068274, -343421961, 425224538, 441825534, -276422458, 15468693, -12400543, -50293862, -37226642], [-206449966, -128540171845719840, -93645732665759817, 57285274, 142456925, -90130899, -552778829, -181766539, -66747402, -42807645, 82730325], [456073346, -87117128516788961, 1188780611238655549, 255711218, -389600481, 277136732, 414696337, 22942893, -31362466, -100739784, 30139708], [199907444, 44088024389319625, -648002024459267771, -208399085, 327161975, -473212960, -24589895, 70321159, 58528421, -70719522, 40074976]], [-1251861121, 2519208640, 63117204, -4857943711, -161338846, -217468246, -6196085396, 2879083079, 852274058, 501324581, 3147799304])
theorem ok_ctBm3 : okB (-3) ctBm3 = true := by decide +kernel
def ctBm1 : Cert := ([[-9598603, 109800178609764995, -457276859598818015, -52749152, 219361515, -527490590, -160444027, -102075329, 218989664, 61251693, 219112050], [-1380971593, 210579516685754533, 2136706042916944253, -271391865, -206328097, 422275836, -274355247, 88247399, -30031023, -56619275, 946140], [-1139633901, 280888350479196609, -850363404386553667, 157295480, -92180833, -507936504, -215410671, -50961673, 13239624, 178007109, -823480], [1098582933, -331266822259625727, -259660542881642907, 223959141, -240226089, 589579625, -378130599, -153414688, 24492195, -98773684, -74824847], [378995378, 69596894800594335, 1124971884827237132, 56201651, 191500164, -227063119, -683084356, -237746198, -2672891, -68254041, 81758457], [957994343, 604991587439588782, 223265063194022875, 623528036, -292302871, 313434737, -76805145, 196526891, 21381180, -44860126, -9802055], [1888908374, 964353590926224810, -71961195141677829, 22947306, -184032183, -142966630, 124941703, 21444512, 93360422, 118708660, 80126186], [674855560, 597406322360304191, -1066718344742924580, -624885146, 389886324, 68523811, -128467252, 197721804, 3876618, 79442291, 27498107], [533427748, -1525795576347399938, -87764614726256851, 400601737, -41538193, -53504186, -251073983, -141491688, 62659871, 94891154, 69311990], [-276468138, -81633523108779437, 261516195487753494, -309878996, -699092238, -196448294, -221290834, 187963175, -7705932, -86632204, -34702806], [57536248, 43452449664822880, -1311296081442088040, -130366978, -491390072, 211599429, 145651448, 30795213, -63701710, 24554933, 95791661]], [-2914276196, -2969239518, -3398875910, -420092919, 2288151426, -289879775, 4553705319, 1488478426, 2191400085, 1462082795, -936828916])
theorem ok_ctBm1 : okB (-1) ctBm1 = true := by decide +kernel
def ctB1 : Cert := ([[338425348, -908830584749901639, -507923124565592636, -71633351, 178983276, 259813819, 892896340, 99678474, 111859951, 1815293, 253401043], [287008716, -68943327336114693, -732243631611980809, -16204064, -114753763, -208355992, 886724851, 61688189, 175885344, -194513722, -9218392], [669710408, -1044511044931536825, -1537278830272408552, -97755671, 81701128, -213515330, 411074936, -103889417, -175566657, 15512824, 45459502], [-1191360930, 155899052615661758, 1295528484272116849, 674242122, 164720987, 378985284, 118260757, -1101626, -70352954, -37139094, 10205284], [23932504, 254137195213781040, -2061800741473169314, 219090145, 127628042, 313827864, -707088874, -94899800, -30067065, 38253728, -15293224], [-1007311148, 442234873957568622, 133825045418053720, -303860147, 536321992, -49205924, -155785544, -89113874, -134807301, -95940724, 44666172], [-454418167, 39681749709654926, 799161882113971731, -102519925, -424999855, 39139093, 365998079, -71621617, 70671597, 148196552, -95407235], [-51173253, -1174435361482934105, 595478553879707379, 89167123, -77597199, -348436107, 200613983, -19331002, 173314725, -48519996, 90841309], [814796537, 357379206709162504, 670607342315248331, -275940310, -249932743, -160432513, 10768535, -29268177, 89015526, -128675874, 150187447], [-534363992, -226343543941466945, -346179091050721365, -37408214, -786150951, -122921102, 280034551, 77350483, -77037850, 73072380, 8190082], [450621837, -921665072974009236, 143119674970078882, -97555092, 32305654, 432592400, -202146582, 8192356, 92300916, -156819813, -15052144]], [-953150756, -1360546014, 4473593455, -348296386, -2946827484, -8132250837, -1644475551, -4603226163, 4371677852, -5695675758, 87054396])
theorem ok_ctB1 : okB (1) ctB1 = true := by decide +kernel
def ctB3 : Cert := ([[-526035007, 215232186316850895, 1553371283133071908, -351878614, 356190604, 257258094, -85232076, -14449889, -45519130, -166026415, -69971874], [-278800792, 557421845484282329, 129322021054355096, -869407749, -27130744, 837704631, -217563656, 157603014, 97948157, 91299875, -60899665], [-426678804, -255772675810763543, 473473204657717529, -132145894, -708235117, 299741548, 1198059101, -113164333, -48167562, -1878468, 35618252], [316836946, -19782451535941354, -1526716587120923127, -13810916, -51030301, -641145966, -814468851, -152882132, -95494076, -76471848, -15387230], [-69088411, -206251535206692127, 341706231101061569, 373180270, 60552139, -531247655, 386372773, -191788048, -3527358, -26384728, -187817119], [531095671, 234902161209966984, 1270821731077648078, -125025880, -366839334, 777961989, 84326470, -72713243, 8104600, 77733926, 134744557], [-98229812, 276742326192546533, 385644867779643085, -239047562, -733615793, 395119157, -315980703, 2772456, 139416442, -118640835, 74807197], [-2012541926, -72062039907913216, -173533591162702015, 105341442, 76044363, -509137945, 440145957, -136240545, -79135026, 98340901, -21957537], [-371061081, 50625538117580522, -1451686723296728716, 911204776, -206167556, 60098383, -283717436, -26299779, -147780968, 9056264, 5560583], [590357565, 44219446066028384, 1374938082013291477, -479599690, -509891417, 108861948, -237792119, 132239740, -13087174, 88106511, -53684516], [-1027291191, -411435684343901192, 649991083581135658, -134311702, -185733170, 399723676, -114877806, -128829692, 57908774, 48172547, -38201732]], [-2024533769, 19980858, 947534666, 2199602441, 2920091877, 3190265807, -3043506400, -5907306934, -1723108724, 230357618, -2568976589])
theorem ok_ctB3 : okB (3) ctB3 = true := by decide +kernel
def ctB5 : Cert := ([[-1199092021, -425074961718988144, -368941427936626028, 1003516398, 196111964, 544179451, -118455708, -97537661, 250431170, 217118072, -51792621], [244126764, -123010803559947413, -1474404599102124030, 498808139, 1022730518, 84082710, 182708170, -155344981, -63125203, -141910600, -11785914], [-1121428411, -8463750970125300, -46612955955323756, -177409470, -410491812, -643479524, -949523356, 48352048, 266832014, 77547359, -59404804], [-1640338923, -446960115468006040, 391706128556983217, 238186044, 419387675, 169999179, 83118165, -255684101, 112998948, 133682638, 104585699], [1857182814, -74271019951135127, -567077599257426509, 212513267, 380674097, -485562583, 1126328863, 127476664, -126013243, 51262621, 37897009], [-996062397, 173164553790364272, 222086050166580285, -375107429, -685431521, -641669, -197793391, 75247651, 199312989, -147733312, 16533907], [-18857921, 137705589288978987, 308029123256401407, -665146131, 1057706357, -86838641, 539527707, 136516076, -6096037, -113376202, -45642169], [607830272, -313356251206954262, -108157121763967056, -43545637, -173681520, 236344738, -7550864, -129072728, 155720989, 240509942, 37618738], [320643902, 149509059971305677, -185550204899133272, -553037976, -148946120, -19640832, 666510920, 58287075, -180735272, -99163468, -173457920], [42615622, -35986622792629087, -1703547933770617648, 2412613, 151164144, 124985423, 222578192, 156609750, -183372861, -56284741, 37386759], [916849126, -96218036975173325, 256764167317188635, -51548558, -218945879, -172696121, -260435673, 59508060, -59047970, -136954841, -69919425]], [-1150546980, 2066129542, -1793567690, -4657549284, 810535027, -192645592, 470073126, 5495172063, -2504542826, -2388622520, 3040642751])
theorem ok_ctB5 : okB (5) ctB5 = true := by decide +kernel
def ctB7 : Cert := ([[-42685249, 69599738027320317, 138001442784163595, -548148901, -264000775, -672341967, -938977833, 62476844, -229786723, 190067618, 45607545], [-2301000291, 134704901683562891, 1118192117588975605, 31051793, -19246585, -711035971, 225951017, 144085418, -169656617, -90064160, 211841893], [1848913709, -215107782691420274, 215806401985074131, 86433821, 63769489, 776654527, 284732607, -113220471, 191173547, -79477942, 172634103], [384904479, 170848554948744581, 1786155339782328909, 114462748, -332929073, -1014649941, 42438113, 136330990, -130491580, -18673716, 70178115], [-331303646, 208197390645017518, -685005061156740907, -455601048, 227003303, 778320357, -333044343, -76802241, 26441176, -58661733, 9349325], [800018234, 141939697055611956, -1690965140580553056, 292245608, 738578656, 294429715, 101258528, -40792713, 179345880, 171317745, -23167253], [-278507608, -132912252035076334, 1519176847191566639, 222256940, 17810565, -514202369, -832062453, 16352005, 7908020, -83809665, -8148937], [-473142696, 117369372307429855, -1462202103113353196, 325821821, -421326116, -96792732, -728578588, 146877493, -147096245, 16373044, 8201604], [-522564801, -87466346558112086, -134798032496720824, -394158433, 189043480, 244805652, -451908504, 163333482, -195311111, -59153803, -99758156], [-831956369, 65147866224549494, -413403882850991155, -533928204, -426293169, -647144542, -226765471, 155485532, 4754476, -68785565, 74037810], [531285153, 2647755178534645, -1057588741839657694, 163020251, 229579126, -152376479, 85994858, -100115356, -50169059, -127053296, 95515433]], [463021490, -4219363443, 2800743970, 5951205158, -19668025, 1182762569, -1250276033, -82234231, 2381902490, 56660081, 2335359448])
theorem ok_ctB7 : okB (7) ctB7 = true := by decide +kernel
def ctB9 : Cert := ([[-127070339, -101235439432820240, 812950200725668530, 674945879, -183195994, 411091166, -506343622, -504113826, 197720065, -184241567, 437036622], [-1644863099, 85555236704207675, 2437820528348901253, -644875794, -80902857, -844078399, -18769671, 314720030, 54329026, 43253318, -127554167], [1043956028, 74599379801480437, -1274239625761634305, 728218827, -539181195, -56440733, 415464475, -156297994, 14896557, 67137037, 162283963], [2231639118, 25274148830464298, 427816627566679382, -364658424, -7920206, -598708282, 1068959726, 137567660, 88795704, -68882972, -113403274], [-93660160, -126544598221306339, -140256530464201557, 190369161, -819842855, 350952819, -786938377, -218128674, -102303201, 97841929, 62737227], [759825331, 8620651912845938, -745700037235155580, -473410657, 488515244, -392869439, -465710316, -87501321, 58105081, 95019826, 161156233], [545698850, -56868392936357399, -96547237504667552, 746931021, 207242272, 270982575, -152803872, -11126930, -109544453, -12958229, 148613735], [-1145011282, -53191803296637079, -1051595753006463684, -68725133, -636749932, -323742470, -662289748, -16468015, -16293819, -55801470, 96051274], [957718894, 112608541386648814, 388901752183456519, -775951350, 112594125, 298201493, 78783043, 141273903, 51922950, -30846429, 29286909], [-969237409, -31883856380889884, 420452949176947392, -310922234, 25374272, -325382619, -269482560, -126770711, -179724694, 38618518, 78925581], [-1026791482, -118074497276998426, -219931621314821405, -596081539, -7333567, 159082987, -176523761, 35754813, 39925323, 72077601, 136459651]], [-265192193, -392589572, -1253720399, 3741106775, 3975444911, 2998623985, 3077343519, -324987283, 2201189964, -1800689676, -2840299236])
theorem ok_ctB9 : okB (9) ctB9 = true := by decide +kernel
def ctB11 : Cert := ([[-1713051164, 79820538363741007, -2991709999829250569, 623872339, 169540893, 576782261, -340673805, 97216350, 78305381, 3085061, -18400995], [-6675682, -28942342827442277, -1863869274316639514, 355119844, 674656994, 89365968, -177542722, -116799611, -188409412, 229206606, 166209616], [920197975, -76267366430856893, -2273339911607803538, 688070090, -197265734, 329472061, -391913114, 11023090, 145706054, -232972806, 85580773], [-226253501, -22782643941631138, 340543293421500635, -451689973, -234182935, -712919469, 812999911, 256601837, 88304237, 108116496, -69545173], [-27648679, 136910306050442316, 2016629737582590551, 240707450, -83274435, -775406110, -358331181, -113293466, 8450582, -101094215, 114712178], [-26026034, 49371963051517247, -403421552054556540, -332186754, 540696492, 57188819, -163157484, 213028860, 150527922, -128445879, -121128277], [-661904045, -129495263015078079, 1018666589710714155, 126392268, 186881625, -16897749, 733157495, 3990770, -172788972, 33914292, -84975933], [127840194, 61131669784020501, 678437156821673814, -192465578, 118418354, -598911639, 761209326, -86566004, 76621210, -40816557, -217590927], [-451400079, -112319479442839790, -939618094774558687, -458696916, -255260181, -318350925, -574568315, 52821081, -139988300, 31004018, 47749515], [-1111832312, 43121088367420715, 1229671870314217904, -603348287, 281340560, 162720669, 525767280, -112178454, 28738471, -91914631, 15602245], [-1187425767, -93536852839004918, -6577946815575382, -134439728, 150501966, -191119326, 126572562, -27460600, 126457776, 103695569, -126311758]], [-4641423473, 1417633308, 742475300, -546965407, -2731490597, 1231141842, -2434068740, 1639372111, -2142080745, -3275332216, -2716381331])
theorem ok_ctB11 : okB (11) ctB11 = true := by decide +kernel
def ctB13 : Cert := ([[-1077730697, 56742408673380769, -3043494131866495543, -78307713, 387738659, -340173549, 453345229, -40870470, 192101657, 19975574, -222314517], [120894949, 62166872838916351, -714384784885379341, -441229673, -868145679, -485372629, -125636513, -289556396, -77609279, 56803132, 90907331], [1428576413, -43196023787694820, -1292628151905971758, -533002249, -229221114, -90808977, 50542298, -208848053, 222293089, 47789682, -149030873], [666660816, 149450723837694961, 259014559449446328, -216335517, 303644904, 304525671, -595591272, 153300062, 100023509, -102318079, -48839201], [775602858, 125054043349935324, 546375488129710916, 407630232, 123604460, 150677414, 406712276, 38850746, -132451288, -225238780, -58492586], [2167114217, 91145415588643819, -725638792390634382, -336554344, 393628134, -85028827, 265220090, 31370994, 75585320, 8334554, 210592013], [-988977465, -94376529086513927, -402881000454952792, -659971842, -983035080, 622392857, -417180088, -5441896, -3688910, -99653076, -51266143], [-1204000764, 8953575994886193, 1194079027291196273, 366990636, 170495579, 282226332, 148666133, -111765829, -55040844, -167749974, 148031612], [-303145333, -64611027342762700, -1088931241411231104, -228049856, 154049408, 705491083, -467633024, -82098513, -103662144, 64348368, -93099741], [-65733435, -333851568595827, 472271452844292013, 411466453, 178483951, -793337623, -371335999, 136665364, -38661197, -112786810, 30546673], [245246980, 30098353084110618, 374239063598191035, 907439131, -241522551, -250622290, -136067769, 18840804, -22653219, 18180398, 157269662]], [-2712586352, -1121657486, 3894624121, -1033464196, 3095171309, 2279340629, -387629931, -2709445539, 1614191114, 1057753673, 1456607008])
theorem ok_ctB13 : okB (13) ctB13 = true := by decide +kernel
def ctB15 : Cert := ([[2032979403, -81660048348642613, -1533054645064022210, -417848950, 641072810, 747024648, 641180790, -118599603, -79573370, -125086115, 97394504], [839570773, -35282039015494840, -534470848985054188, 395163675, 1274304220, -64787597, 777175524, 82679171, -268047651, -2881306, -1406645], [-1618596276, -50281908140456866, 776036755728362914, -13011928, -1179928842, -744320046, -358004758, 32307876, -104924136, -77222410, 151623650], [1550393394, -14782242637799198, 172009757583284840, 905543551, 64951928, 212081566, -556263672, -119788788, 111035417, 13356828, -128850162], [-138992994, -72725274572751631, 1798920678035526716, 179642983, -392160108, 48984178, -97210964, 97779457, 154406769, 145431924, -10137214], [-816858019, -14253724516927281, -499245354724977838, 432495112, -804901498, 655596703, -89518502, -172313192, 358712, 40330106, -95988521], [78415318, 66533846730755379, -663529825211024331, 647590246, -530536249, 350529992, 244236905, 81021477, 130535434, -92119262, -95326712], [1144087436, 20277446414585818, 604563387478318946, -730817358, -577979850, 249016852, -65730390, 23051066, -72049762, 187976392, -3563084], [310313331, 5826729250453693, -1187664209079296208, 151769676, 517959440, -411713334, 187102704, -85381747, 190053524, 167699559, 50513562], [-219538352, -64804295712913684, 72810039418962420, 109696820, -159797380, -733256642, -95159484, 48781570, 120534508, -18613090, -201298770], [-918259067, 13025209656310815, -577975757887659542, -245298970, -6333938, 110892736, -546331566, 200981809, -86915958, -65758277, 92331200]], [2297348492, 444287959, 2000621902, 4470994476, -1020961145, -4169830285, 2525629808, 4365130778, 296750531, 140745797, -989130381])
theorem ok_ctB15 : okB (15) ctB15 = true := by decide +kernel
def ctB17 : Cert := ([[-2237143797, -24848557470884050, -866863690065075289, 322195244, 162808749, -59832898, -553340573, -126644960, 226835124, -186983753, 36715054], [-58078867, 53388983661826578, 185648374879067332, -280483444, -1004962196, -811336522, 274409300, 191040180, 5576532, 71970789, -229047578], [-1438170468, -41906119158240718, 425937008751891501, 1028504179, 292695151, -62899388, -437150911, -132155886, 39427141, 197323588, 68687972], [500120255, -119818268293036188, -1466053874780719713, 365951370, -340409003, -14720327, -157225925, -48636003, 100251270, 122149706, -94140607], [552451086, 106676917309102572, 851562039567416175, 578501185, -48485051, -159411761, -110866613, -296992549, 103184423, -2152703, 175478663], [210327164, 28564431378972065, 299531145710978522, 160405519, 1063148894, -39784163, -777250302, -213316204, 80127497, 120243991, -82418747], [58887302, 2653347534676546, 712381463868690327, -458222806, -104194307, -155071733, -732573933, -243190719, -84867610, 131107929, 128776099], [-1008689995, 40982743165154436, -1787419487132956012, -232982905, -5284260, 31905369, 183276132, 211540253, -90478511, -4350764, -10498079], [552420383, 32188765663155988, 76764131260131842, -185213286, 217988886, -168394034, -23680566, 206684522, 157376502, 168220679, 7842750], [176477627, 4252179074262005, 256136544065262544, 187136038, -20266512, -318011390, -346478320, 253685197, -48068790, -94473843, -4714094], [-310548848, 34617532988678763, 344469030645505838, 503473961, -619758086, 737245834, 10526246, -105025, 15780223, 59240420, -16343462]], [-3085178268, -1690130295, -3868747832, 4126363072, 3145094127, 1250843776, -533112729, -1030432328, 305774220, 3341073157, -167021359])
theorem ok_ctB17 : okB (17) ctB17 = true := by decide +kernel
def ctB19 : Cert := ([[-1406917847, -145760022376484879, 420265733572026894, -187100216, 152178074, -308144391, 412520582, -85846016, 32847224, 95087476, -174322303], [-1337877428, -6886670930794961, 103916373040673533, 5988882, 542058335, 555916073, -1254270127, 79578258, 89457982, 110378681, 151689009], [962992607, 75938486664900150, 1263389820359084193, -327816667, 14223211, 635340700, -295402747, -233371418, -92119837, -48897483, -2725508], [-1674960616, -1438561342889851, -1091188252172229713, 733289928, 32557061, -660387396, 135155851, 153682759, -187876488, 121086304, -96512868], [845747388, 61208954560493624, 776260324492080331, -372061043, 191836729, -525486989, -526462313, -143166829, -740165, -60424081, 264362571], [-491545637, -51021335617960155, -911519120681569857, 494217029, -195990859, 678723716, 318248155, -211843665, 52229315, -80722891, -48269404], [342829795, -51607894941541049, -1450226507192654372, -323338321, 626994804, -421975859, 202625484, -37222978, -131262615, -20193578, -226566923], [2111764913, -24326664042297808, 359206667491691321, 361845825, -659066893, -557747352, -23356163, -174204040, 81456679, 26161127, -47825752], [-682057341, 31277689022189360, -700469538840586163, -44349042, -659166769, -922527943, 103820257, -73841263, -58259422, -29442674, -213876799], [-432640047, -69063324135484598, 262191980776119829, 368354963, -677327513, -433299535, -243732535, -13120241, -52191963, -195150192, -33487367], [-1551771756, 19083005057491055, 899978718303908728, 484746447, 850260520, 50303360, -233278888, -18092895, 73713481, -49568192, 43990400]], [-2351806248, -641888374, 232160080, -653045063, -1312314838, -1824606958, 2778286857, 4220265676, -3499775294, 157222997, -638675770])
theorem ok_ctB19 : okB (19) ctB19 = true := by decide +kernel
def ctB21 : Cert := ([[-184951465, -95459965137114037, -101596899116689760, 191627825, 398461152, 744907838, 367549728, 79338547, -112825929, 6507925, -315396946], [1005785684, -6446324737209450, -478223706563612593, 811538602, 319922917, 1335449208, -610436181, 41238594, 109591654, 201756800, -169491400], [-578530310, 45424099457436224, -5277036634491947, 185184468, 876895399, 1205652172, 225567881, -122184724, 225232204, -75573614, -35919316], [285477469, 81518716848127476, 1312982948531570108, -339087709, 849558804, 460936173, 436286764, -42317343, -67888235, -71434448, 166803733], [-529003686, -66428257335784965, -1178081802385667347, -731000177, -690149713, 101001033, 44930305, 69950246, -167497847, 92381989, -12641199], [-1517998532, 16838947077758279, 253333555368940917, 333447831, 152510087, -352381002, -537634647, -6578513, -193609023, -204708304, 61683174], [273719898, 5445208900083092, 1395972808078559801, -88894597, -332880653, 248250897, -835586051, -76993915, 186396285, 104446631, -99810471], [-778742517, 75952708099075335, 1494429233313625108, 403344660, -795531556, 577880073, -85790236, -35141606, -5807348, -77421220, 29231889], [-1526595534, -5173877406094595, -100166268530346150, 254102401, 694517214, -115939301, -21716606, 51214822, -14849817, 220954819, -102299341], [-51492353, 59679765136615967, -986421441957607567, 549969110, 675816027, -115979977, -165141739, -142374240, -137328102, 56137782, -73517009], [-761339067, -38454348736710774, 958139240187538247, 332366893, -631085171, -130856400, -181378173, -127025530, 39818779, 86899007, 94633904]], [758981623, 2086021446, -3536619711, 1947903577, -2277452018, -2336047871, 390136301, -1940219755, -4778546519, 1365441060, -385752715])
theorem ok_ctB21 : okB (21) ctB21 = true := by decide +kernel
def ctB23 : Cert := ([[-1491700118, 28213980188826947, 232800574883603457, -462090731, 593388683, -372573570, 8953829, 138659835, -280407437, -402805092, 93218030], [1876054284, -86287405385981863, 646783600147363595, 354782741, 20703993, -405648724, -412871209, -69599069, 172806771, 37040744, -218574580], [1349611166, -109491535876517612, -581374877689098725, -185988954, -279138135, 405343083, -21387481, -297615697, -17913142, 13009701, 11272963], [2210569064, 21206375891833939, 992594635899817052, 852203985, 23926260, 632774728, -304037300, -80508027, 91843351, -26725288, 32290952], [167328202, -30463989489955328, 1515334921855277033, -1087556286, -191655037, 188408999, 258983533, -168717025, -27624050, 131883573, -177732833], [-204921116, -13140154302699016, 56102845843299022, 627392288, 39427546, 533384169, -334048186, 255674489, 229991904, 51395725, 95673841], [1349936208, -29991369663030251, -31400914509414768, -627838589, 406616112, -226823842, -725801264, -134345495, 122831797, -39817210, 13548238], [2010008425, -7994274926019907, 1181772638111867928, -312705838, 506517768, -251471252, 451760504, -26823745, -107165570, 34829659, -49238324], [-1339117493, -5819604817076896, 727097233302957265, 572705789, 75836795, -149040674, 213185013, 26090478, -65013045, -89314669, 247660366], [-1053257225, 22710789394102410, 585130785725273907, 327637085, 812671153, 417058710, 621040031, 24609436, 133657963, -51804753, -13298490], [-122752837, -28515638354211840, -943732810936146673, -15960318, 161367845, 258733185, -792007829, -8859319, -79957554, 208098846, -34988727]], [-401295061, -1148030416, 1191310546, 1343365822, -2276670232, 1401433128, 520651996, 4464061201, -2788076433, -2337515262, -1803710914])
theorem ok_ctB23 : okB (23) ctB23 = true := by decide +kernel
def ctB25 : Cert := ([[769887381, 52130393601943309, -710421048521470611, -159618854, 211616303, 104267999, -43986559, 295687866, 181731254, -122783104, -328594665], [2621022046, -35156796916009769, -531528881728801690, 584755700, 268174178, 183738459, 17301822, -45702228, 38404396, -50752385, -212028557], [1003338838, 21204881512091810, -1080417517567928466, 19988551, 758220986, -188156604, -86773914, -1844574, -67545967, -364525190, 60432996], [-1158789246, 1861448614527695, -1441177071605132126, 433585658, -893246474, -626533701, 178514666, -1097836, -111738986, 166170699, -67893037], [-923843202, -79132307096864922, -207734092291384620, -279937993, -1006587620, -311333507, 234576804, -57698721, -92032479, -46327253, -47871195], [515915725, 29915874016501343, 2358792655011082561, -54014170, -267790773, -454283489, -35915227, 225301896, -144865206, 43544692, -93562025], [746167382, 59405938542924318, 804365388526780691, -1045461944, 187899217, -456060762, -20748545, 54068056, -4163336, 71959892, -113546666], [-315757557, 32317471343120158, 1577172811299559643, 203016413, 653575913, -555228278, -267041561, -1795236, -26822421, -79307757, -163377318], [310742385, 30114608439284651, 381372778515168639, 414334237, -780153867, -449116544, 814602139, -5751643, 56589995, 52059521, 146938496], [894624892, -23510817783094487, -611029883498679551, 480512444, 515279243, -549577632, 515050213, 34340647, 55429796, 22148698, 161597280], [-101841264, -2342264937622795, -539296589521319996, -400823708, 278730604, 85736247, 778722900, -69372054, -40997316, 58859165, -61785553]], [-1504637876, 4642157273, 1113222186, -517348872, -766947046, 1270506810, 3391901043, -3324670539, 966613103, 313498643, -1924087413])
theorem ok_ctB25 : okB (25) ctB25 = true := by decide +kernel
def ctB27 : Cert := ([[102806666, -25880056883616068, 167030509071499140, -351496219, 7412908, 43304934, -357974764, -282897638, -292535005, 88995420, 32197526], [234744475, 66307252819344976, -334131350773489435, -380162797, -1172073385, -293192039, 858956761, -163840303, -38028635, 474003030, 208775713], [-2075281576, 55903213746078428, -829386227750222438, -252591073, -240895330, -615297930, -262856510, -179815926, -89726855, 256738494, 83206310], [204533325, -77297948529000461, -758960049450985513, 954818741, 354621885, 967169227, -637964205, -104547136, 78352595, -93107406, -19423389], [55081498, 53796967578586969, -926041846261073366, 413348917, -564919090, -387964348, 418289042, 67520507, -150230701, 82206126, 220231524], [-518273516, 17345347105833031, -493603074158303025, 643525242, 714838117, 355164075, -365803989, 80232204, -40130794, -70791445, -258397885], [-178167154, 47456002929154800, 1133374150843348347, 159616655, -550317623, -174477870, -524926969, 250175474, -6106231, -115915596, -172686878], [-914861205, 3337587315453969, -1691960625151772382, -464181885, 216298870, 896709428, -234122902, -19006413, -38916171, 59084125, 155583444], [-1705013822, 4130202005777660, 1022952149991249967, -139299063, 109513093, 409068397, 512558859, -226450983, -12178273, -69184093, -29891435], [887627661, 36878421556049178, -811232476603539888, -418988541, -306252432, -657434229, -100954736, 20257385, -1668299, -134168018, -106636765], [-64049507, -17527776540959744, -369414116648636250, -217462509, -761202142, -576517013, 393373310, 31731715, -109543771, 36444246, -90518525]], [2508989260, 2811620832, -4298742783, 115451215, -171693491, 904521535, -913155364, -1450054051, -2603424096, 3288257774, -3363133702])
theorem ok_ctB27 : okB (27) ctB27 = true := by decide +kernel
def ctB29 : Cert := ([[1028911476, -67676703068917080, 976480714782416341, 412836852, -322737497, -1088975844, 914437769, -146648876, -391850196, -178185832, 146600444], [2313008667, -88168097687872478, -2256274592165106296, -15262608, 419969240, -448457793, 1083691688, -194637387, -282070768, 74313904, -8495881], [910545650, -22541355695334632, -204250002919306501, 390276550, 147979849, -1173847356, 816741255, -28798132, -239967574, -79785086, -169460764], [-561543047, 112722530476570915, 143523725658984015, 235782077, -46633755, 27086179, 17027499, -95959064, 256249099, 143810488, 101887675], [-1765792341, 70740717844839088, -198528723357821545, 38832948, -52682499, 255814840, -155554541, 260136648, 163684844, 33430205, 162413688], [-562976272, 59255930120616475, 669521540710463926, 655147016, -643422766, -124990202, -18517554, 130961003, 35750712, 199158268, 67097014], [-1346082675, 75510456138622345, 472576961926671569, -321120850, -615633541, 468470926, -675548683, 148779749, -138794750, -66352909, -7203970], [346496973, -4707117653162762, 1144028623956288451, 504352402, 603288289, 755068051, -762904977, 28731413, -61821762, -173976710, 67234667], [-90709062, -34718604884428942, -1793105847524221055, 453746842, 142668555, -137293830, -251520667, -201502792, 171077110, 53162580, -104418486], [-1108379886, -8948202507312737, -167552471424883697, -304080337, -627590107, 450706255, 808257131, 63279096, -46399255, -986989, -212488953], [2090654545, -22639942524553855, -1457184076548112900, 392160974, 5572564, 338170319, -268630420, 36854646, 155995362, 111848, 96606087]], [-1432676355, -504005409, 1874283382, 1466784224, -4550469691, -120288245, 199046451, -890954059, -4634110262, -819230244, 5428452928])
theorem ok_ctB29 : okB (29) ctB29 = true := by decide +kernel
def ctB31 : Cert := ([[-1597673878, -80831846346163416, 352159492001493479, -508340864, 1161674861, -339773249, 49705123, -145770417, 164849280, -66195, 80456183], [785101687, 25764879420045907, -577552290567989744, -1031778244, 70073008, 95051606, 949267536, 48152451, 19015716, 104013183, -128257402], [-248390422, 30443487881777108, 1022184323567781810, 363546080, 119954854, -420518029, 1145456698, -9923017, -99082976, -136702783, -175938229], [83843932, 8758864983510068, 656084553160978133, -678039142, -1187387993, 274489204, -302371959, -53100384, -127859466, -66684040, -197705196], [-819085985, 36826197044789524, 1221378804895928987, -567005634, -620682711, -154869910, 682175911, -111501850, -17790222, 15470763, 160453178], [-1411414743, -32751050840426532, -787668280576778444, 162182320, -480571076, 593479479, 731669892, -127567213, -44813616, -36127562, -83220945], [672921432, 377906765751248, 860301945603129058, 146091737, -386493258, -281144189, 525530666, -98820597, 152871247, 244271619, 15697627], [-1229472847, -48817276709332837, -920027658949344609, 331794025, -122760107, -344134219, 71404859, 118066514, -169010113, 49219260, -112388323], [-190161840, 36519403210029438, -297990192049071852, 417224651, 152452572, -504473612, -153744668, -226645450, 7580333, 165633412, 21323412], [1390643874, -28643558054449067, -1153691481337131125, 117369782, -639715207, -299591460, -498728873, -153350505, -126974406, 76376794, -7932740], [-603348654, -13743433209235690, 628798898706838861, 197727797, 787130575, 440522094, 936123617, -7543832, -94791853, 95906220, -61207714]], [-659365583, 719168863, 1807631267, -1447296492, -1514590119, -1968430840, 1156462962, -3939324204, -3725619931, 5639093227, 1312303179])
theorem ok_ctB31 : okB (31) ctB31 = true := by decide +kernel
def ctB33 : Cert := ([[-2153285388, -31870062329003678, 1909751357246177320, -728513484, -224307784, -1110689288, -36086840, 223051574, -57306900, 233911616, -178756680], [36146733, 35088739917062033, -353919209443812050, 533290972, -411981830, 447204057, -229813210, -107030208, 168063364, -208116286, -138295199], [-812456926, -8597535031189776, -591842232526128640, 702294410, 630259200, 119076884, 149447168, -339775036, -127859066, -44927214, -152987724], [-1624901145, 19058261449754518, 2892818549404645, 608659587, -114645673, -101458599, 922477273, -153432341, 171910325, 102158878, -107589919], [954425141, -14013036054643901, 2508177024585719742, -167797368, 294079530, 430783542, 343084790, -221756557, -54222408, -36247973, -32907674], [572545954, 12103113162261894, -751624989345629618, -440359112, -714377126, 889575286, -466828858, 183406272, -4388984, 202823384, 78693286], [2330417916, 40591562590831641, -1638057374715426027, -963683558, 107969639, 602155692, 166064329, 10248419, 168195958, 78123486, 8499468], [2268180580, 41866604761428335, -1528408591676554876, 39234367, -232230228, 203091978, 103761684, 154414587, -109519271, -19849064, -6692902], [2197961053, 49489031045821997, -37404933898182917, -71257852, 441408073, 478169902, -640557177, -85296735, 51337372, 59587095, 78872350], [-1280200703, 53899278523082197, -555542269955838238, 97718112, 90760374, -396939382, 369731114, -97597515, -127520864, -104989921, 22395738], [-82300100, -30779225768044332, -240422055086604566, 383899343, -906487538, -249167586, -198732462, -106450822, 47441225, 2547690, 34936974]], [301722061, -882374471, -459425413, 33385075, 1533092813, -2867507711, 717343030, 4467482349, 1815924135, -2642363190, 2320496050])
theorem ok_ctB33 : okB (33) ctB33 = true := by decide +kernel
def ctB35 : Cert := ([[2337669219, -43078835932109105, -825184150375844806, 441271786, 793365374, -1794546939, 199914978, -72006226, 113668390, 74472126, 128217837], [-1647702062, -49638082531670047, -1395720000927405312, 759972503, 166861056, 599716383, 44611328, 88379878, 285442753, 78163201, 5469783], [-180842465, -65289728108581900, -85009110217777191, 461158939, -226368813, -576436204, 218673181, 71215744, -46155555, -221288811, 293824436], [-292891453, -10311189368214933, -1459132064717270245, -646654848, 612411305, -35074388, -191897561, 243086449, 77954944, -171118195, 154563852], [321619884, 3324360652949080, -121583849291276729, 686626733, 268392589, -715626867, 635028099, 154202333, 232910491, -202120983, -36349771], [-1197034684, -26128884828170232, 567076869772946175, 717082957, -45285259, -1039272417, 236096283, 120065487, 111779323, 303255219, -51537321], [-569900788, -30109821675637019, 798727146158063852, -92341842, 790700068, -677120135, 227145500, -53177268, 191096066, -18358335, -148418047], [-808425188, -27063868331522508, -786969114319180842, 679425351, -11248334, -829895799, 134064238, -17942755, -31938671, 13648997, -151776623], [-127832612, 22897972645969936, -496325293470131731, -531825772, -541406289, 440732859, -645234687, -37117501, 97900684, -116518409, 57166547], [-1703838349, 11225143391577747, -82076327383760724, 509515917, 390004068, -525312918, 299564508, -61099017, 43239611, 54948971, 34174778], [-377829492, 2696916572060184, 1245727425057649809, 724056321, 330801851, -58164757, -404168523, 298475, -71895193, 79716567, 61064579]], [2746248639, 293845534, -1279559387, -1309925651, 1718082108, -1085291526, -1582883623, -1305966278, -1272793344, -4773981517, 556686440])
theorem ok_ctB35 : okB (35) ctB35 = true := by decide +kernel
def ctB37 : Cert := ([[2302755262, 68523860321364266, 693552777931115636, 373644599, -906370308, 452321891, 338321348, -49180943, 236075297, 80216225, 177449915], [-787204520, 19908116085829068, 30510461726331083, 441067614, -676501959, 788804038, 294444695, -199617558, -208065070, -39209514, -106369930], [1405606241, -56378369530904935, 1062574339248128902, 23553810, -573212222, 48637086, -833771298, -74168987, 290654270, 45250375, 141490190], [478701653, -16237510969073790, -447711815635620590, 941619399, 75737286, -200051194, 780588826, 46468628, -303869935, 43543493, -42040650], [-573437704, 48354138789411127, 1413243508068844628, 421197985, -32687716, 148165763, 52886308, -35816268, 106893511, -123269479, 189548251], [1040939212, 6167984305389910, -1095351017239465403, -927571665, 154207095, -322447639, -740667719, -17560773, -72707607, -126001311, 82673905], [-1395462598, -31450030636542375, 128934262843886085, -765939462, -19502921, 90967076, 248925561, 31879643, -88669034, 1490004, 222206020], [-1818456974, -58696155653429237, -1240720128960721125, 78519191, -401146967, -30906006, -552612825, -26786817, 136958401, 45325158, 136293434], [-2244976001, -12938697458439061, -325553145972888897, -113007642, -408707659, 673459533, -634990117, 133808858, -69852790, -60634044, -108567179], [493080697, -10766682592107365, -767664475813247546, 39420227, 366490242, 869524742, -709039074, -74591253, 72161781, -2890933, 103918006], [-845275712, 23518867909981271, 209650199250344849, -186447081, 317378491, 150595777, -419249227, -67937214, -185455039, 165242175, -101194871]], [1210794665, -385285176, 2032683175, 1850581988, -2049260908, 1712317949, -409833376, -3128018899, -316841155, 1396789630, -1176663589])
theorem ok_ctB37 : okB (37) ctB37 = true := by decide +kernel
def ctB39 : Cert := ([[1895253444, 21601359099431446, -1766028683896345060, -510807050, 735160628, 568261813, 118878988, -237947993, 237180922, 24205481, 23518749], [-854178101, -1667109703926663, -2613545187931333021, 91951091, -148781119, 10518604, 413061007, -383767261, 390267589, 9470985, 9137068], [1031485809, -5279234993201252, 807580023462542874, -358412809, 415836190, -302231129, 415165250, 108685507, -45459871, 14717182, 328898591], [637178166, 3976994228959287, -489819205124795421, 1085850639, 339121217, -324046070, 63138575, -393444941, -4761079, -133569876, 94419674], [-423653914, -17142806652402510, -2935009232955436936, 328579539, 521351464, 98341502, 36430680, -283060196, 21781477, 121986648, 12500206], [-27709293, -12157514093635492, 1888331387713595538, -678513310, -171788474, 335357034, 88854682, 19819294, -241825170, -168189865, -42827974], [346531452, 25536916396342502, -2033513354541195990, 422541538, -102808114, 405839700, 1100129426, -2074962, -10439954, 51327176, 171501812], [1440223093, 13462776329469836, 565892802944238321, 716911825, 638152923, 143958749, 970906773, -128119495, 62441495, 109236128, 36434821], [-52230294, -22481719873890677, 876111335178851165, -200802731, -763085953, 606877162, -141037263, 238697983, -85328845, 111513336, 140328122], [-1470717294, 42101953826093002, -871490322333008098, 276039909, 457528650, 321446343, -151502890, -210658347, -155796445, 35016829, 8143167], [96515405, -9475253050469467, -369111561481364308, 203274073, 604893540, 638800988, 263473628, 109684167, 208637135, -14440297, 97922108]], [4564285982, -3603788115, -1356940075, 2439775724, -75274656, -1096967654, 1370485464, 155745636, 1027205741, -4152478329, -2609953774])
theorem ok_ctB39 : okB (39) ctB39 = true := by decide +kernel
def ctB41 : Cert := ([[-792670178, -74790466772083600, 628288847856002230, 613661319, 904904402, 120436946, -1123112754, -49632910, -24886191, 300774148, 192783586], [-753751897, -18877229100657454, -1257698415349193964, -1062745335, 215477212, 12809581, 39107812, 30801827, 77265055, -258434550, 89884309], [-513176843, 35955487831380831, -468795893062471118, 292158879, -289001178, 105008268, 465505466, -51953891, -321780999, -150484879, -91371028], [-521384558, 16908255348108644, 473238693050161642, -243118162, 1758659086, 237363527, -510100398, 72003355, 141262594, 218901669, 42917055], [-648680228, 5222741209204813, -888710658947021784, 533263876, 569639352, 224973019, -331321400, -39240106, 76225436, -23555435, -290338829], [306169494, -21882137362074213, -947488036687854500, -501053031, -299549196, -283945696, 661461580, 59481941, -17685361, 193530716, -3779040], [819452606, -38726024687941472, -117031114228654786, -134420976, -69750614, -394693804, -377253258, 80493140, -101642128, -219291498, -180921100], [107798101, 16295347272187014, 1402714478438735425, -509453315, 837059915, -270073607, -84083931, -196039781, 83028683, 134551264, 10471297], [-1741172793, 24008804843804674, 360885575382264697, 219954544, -774671693, 409154099, 466007613, 74506473, -62375920, 31339648, -139422197], [-1245148849, 30513831544028141, -310498295324794495, -54394731, -315651829, -912783212, -23829659, 64455927, -36510733, -133603789, -42496972], [-31513468, 13657334074021337, -432775194453984319, -376585687, 18663883, 126578452, -834953563, -30644021, 14313087, 250855606, -58915148]], [-2982780625, -3152362857, -213268179, 459071731, -1285324771, 23819859, 1528067046, -1529680783, -4782252290, -2898114349, 871337920])
theorem ok_ctB41 : okB (41) ctB41 = true := by decide +kernel
def ctB43 : Cert := ([[-506844452, 17292653586885673, 2460896993567935726, 467935060, -52079302, -534382243, -100037914, -84296500, 147012300, 269412509, 66248197], [-520087156, 34887894645192356, -2336036736048852061, -624668206, 1084699009, -545656091, 333296079, -65011991, -49579138, 69338449, -174003763], [-1411726886, 25482580821800387, 2397681900182517888, 431053158, -496259712, 258008857, -444659072, 275085614, 363210762, 1296611, 38925985], [765581212, 16386307787518684, -870893305595361987, -446574698, 702861343, -306542365, 190099089, -125022305, -245942950, -59139313, 249849403], [-253089967, -4407740660006351, 1029511643466908278, 172163515, -1068784110, -273184356, 229819790, -229478469, -113014211, -189558353, 159447932], [-324245662, -8878261038060674, -663028087201829089, 621192267, -387777067, -579478441, -462234693, 184366577, 118387245, 214337061, 49888335], [147963025, -33256840084042595, -142309561005951752, 1235980974, -409664856, 58187276, 193726936, -117658497, 186479618, -80295729, 160630636], [805949519, -15571409289087596, 131446457401511646, 1045305606, -117972342, -1110105917, 29070998, -64523193, -290176662, -44676180, 8463643], [-284162295, 576833173662585, -689380279978101459, 1131093820, -453470353, -18568161, 749051969, -154049842, -166498012, 8576754, 18514007], [1398643697, -30656276139465813, -450906233463072895, 54315883, -246113525, -540214454, 898298213, -14448833, -133091315, -69990347, 137999642], [2039147478, 2000141509542062, -857127187465748755, 651689166, -523787601, -156230608, 31316225, -102532318, 55387874, -25417070, -47390288]], [951840126, -2347500594, 73949454, 1614008241, -2902660628, -1780226356, -1686908253, 74901216, -1481414067, 1883288708, 6080664996])
theorem ok_ctB43 : okB (43) ctB43 = true := by decide +kernel
def ctB45 : Cert := ([[1352218145, 44229262774700141, -84515035704302720, -1354379965, -474478976, 1002303969, 365003136, -160206356, -104878603, -88392382, -53768791], [-248794820, 14135594564221512, 878145464687441814, -19628398, 785071730, 150379282, 393407278, -256108966, 284392638, -68295370, -314029790], [-451119166, 10629695981216833, 194559945257037286, 668532159, 315718626, -1179399425, 545632446, 84903782, 58462169, -330819513, 7421495], [-841773371, 15816427697634840, -1584878202749925640, 393390329, -610449240, -480502491, -363093032, 98785909, -81148881, 84455528, -211479027], [-1997223455, 40444900278570695, 1107688002483881567, 93041218, -275735147, 329036757, -525572101, -10009210, 38193294, 149139754, -121887171], [-1213046003, -21815238619804077, -150741731005486501, 284281617, -688830615, 591206901, -218731417, 106712666, 140590039, -16246858, -223816355], [1856329323, 8739200330262333, 750646188782518008, -275408407, 915058856, -544165846, 135707608, 174983533, -54512449, -122152503, -21874438], [-890510572, 17382895775346115, -1494286835388178779, 641806301, -60662889, 753977493, 108650649, 49806218, -8836629, 74935551, 107704573], [1027958240, -18748573008250743, 508580175288519116, 893410282, 291746244, -384016112, -196950148, 6689271, -146519258, -184167374, -29461104], [741544736, 11798272449485968, -675683283344988381, -251348000, -145160191, -223687246, -693738673, -50595022, 113678112, 49908674, 134383810], [518651476, -16955621194859960, 343055520465773731, 714931952, -604001151, -150129092, 420783823, 35410516, 19010192, 34954392, -13892324]], [1592918858, 1174399160, -2192446803, 453225250, -1216937099, -78926648, 3775645603, 831068262, 1764605453, 3821384100, 4887176619])
theorem ok_ctB45 : okB (45) ctB45 = true := by decide +kernel
def ctB47 : Cert := ([[2575014750, 40826232523250804, 1022201002696644084, -190053063, 381143932, -241456784, 556965700, 62329660, -132128273, 35878514, -230962960], [-642044237, 634791289979109, 1500743585330208337, 942619937, -356856325, 458396750, -1147733643, -31948407, 162177095, -98151253, -4757186], [-918474894, -37279160238118769, -4040345761483072182, 506820102, -1125738706, -385857413, 738713906, 52103572, -5067670, 128514481, 59847827], [-1406582755, -22739863764033878, -670982973619669651, 729998379, 567228975, 141611851, 21502337, 138119065, -318036659, 117167830, 8614371], [2039353618, -24027424526302155, -3882476960282778783, 479022905, -613757525, -385069986, 526217413, -8878647, 236234735, -29123028, 280702414], [-609687883, 5043089201981868, 1470578914656064378, 119610591, -515144898, 533600677, -115381726, 186422305, -226912839, 214933256, -18458995], [91969481, -47986446234367216, -2023306567364298669, 756359068, 131865873, 35665934, 615486271, -6416658, 293377988, 110566757, 83098366], [176389922, -20292767525690121, -1032580711235539496, 398767828, -146365368, -292322649, 725273144, 290422584, 81538892, -13265907, 36966687], [575052750, -34645574951211961, -811095932115615107, 230016270, -883797537, 435780176, 356186321, -76811623, 80394402, -109839790, 27543760], [1518735, 15553971453801767, -1759808298693640530, 394881694, -174368646, 209018588, 1076906918, -37909083, 35575186, 50942253, 113928892], [415343321, 11999870998727908, 860635961624874866, 87482806, -242953498, -814296353, 638465786, -82843661, 10649658, 33938350, 51244311]], [3459560745, -424895583, -2106720885, 776281547, 4258287062, 1708617573, 761711121, -1618898793, 1814424031, -2592636288, -105748852])
theorem ok_ctB47 : okB (47) ctB47 = true := by decide +kernel
def ctB49 : Cert := ([[-308284324, 74477796332413950, 810981534179188479, 553835165, 494451829, -55147792, -786067685, -17168494, 12246315, -187746824, 275156592], [388931549, 45876921202125260, 843100688661002886, -512385170, -83798334, -332401589, 381017054, 35980887, -36793022, 98557598, 389569251], [-1761142301, 34143846498712794, -202182364727413116, 52879667, 347158956, 398609188, 152154132, -24581174, -168938619, -150973283, 248647492], [817918340, 18488925125990546, -1674187065389554380, 781099496, -500149444, 496460540, 989971332, -139542230, -26057640, 19488340, -4970532], [-1372962348, 9094032132659034, 251432408524973748, 255939342, -311090244, 328755396, 178494212, -207541270, 6347426, 307856124, 37343716], [-873937546, 47383807475912882, 1324382236201900700, -363884524, -740928844, -729630741, 102678924, 141066929, 25401356, 173275177, -36277373], [-1216035233, -13520399249440879, -872350832099580624, -836043048, 1036824848, 63966387, 167007216, -54487702, 222513384, -32989174, 56763531], [990222924, 12501045167139900, -543986881990751825, -469074896, -1088984571, -286723089, 95440523, -145142613, -132548784, 145692003, -106945881], [-168390038, 16645343396139949, 1320162176483811934, -293165565, -249251574, 548261929, -495368170, 103921972, 60613429, -156871875, 164312113], [-369953745, -8606452187903234, -1653819037104477574, 14025826, -427409346, -832474879, 96386338, 86130667, 129946478, 41793934, 11197897], [367666507, 15348728028416819, -96989014833945545, -34570687, -239889955, 45913936, -481041869, 234097645, -59452377, 170469055, 65670608]], [1234341425, 2722052696, -4681623317, 1646075306, -2610544691, -2210746751, 40430656, 1253264412, -797470519, -2409200800, 1206421597])
theorem ok_ctB49 : okB (49) ctB49 = true := by decide +kernel
def ctB51 : Cert := ([[-1564623470, 9943122687641318, 1933833599154479117, -43728509, -956981489, -175497921, -533013855, -217590223, 265679797, 268300557, 176738935], [1614880357, 37156148377888647, 2699590914757240268, 485295415, -506944060, 416652523, -10087556, 4086540, -121188063, 105513570, 69222531], [-997881264, 32439948592346779, 1050499502526704265, 422388166, 728510563, 725978218, -573976691, 15032175, 112641706, 57314990, -68409542], [1152921873, 24801268888891841, -730238840485385539, 207841230, -399086433, -537452404, -886212079, 11526555, -105040926, -36961513, -78103060], [313181029, 13632253792010963, 793379467268168853, 1454910756, 291716327, -700690090, 382982217, 119173379, -259831428, 137258741, -84282234], [-470772370, 18475139741440932, 245398829977696612, -993040025, -538392244, -277867368, 277799540, -60511372, -67198863, -182226630, 115182424], [-1200479772, -8385628886622501, -781147866311208713, 297659084, -1090265571, 325086992, -635819533, -173613179, -71313388, 242636848, 94729104], [1984774162, 14149448022865067, 569645087112313246, 141192123, 783915210, -294705684, 399479894, 156673905, -160485315, 5768222, 188085836], [1183633162, 265018194615324, 649701315072400611, 896917373, 701183809, 205474975, 440580111, -62304005, -81210549, -210144771, -28015401], [-831283834, -16848479768187878, 2044896794953813555, 79284391, -234439247, -120964225, -305527649, -45536259, -163253455, 225027465, 56726199], [-42824805, -8737884274031331, 1092518326400897625, 787014080, -294072749, -369178690, -26616675, 191934657, -155134912, -49950209, 156732462]], [272986001, 2991279029, -3754170052, 2270687653, -2453224161, -3955958034, -1217881358, 1846606356, 900017584, -383345546, -1728311641])
theorem ok_ctB51 : okB (51) ctB51 = true := by decide +kernel
def ctB53 : Cert := ([[-1296087005, -11815609583441396, -1164916749671222159, -109582475, -34746021, -998981602, -403823595, -395520318, 37341203, -28007053, -121303154], [110628690, 8473017766593456, -3265148298634307061, 460508622, -41112583, 434323971, -1183144745, 99305899, 69156322, -328223159, -91864997], [-178474426, 10843657280963422, -2558899043014166108, 1168518275, -408146932, -175958714, -662660172, 16646072, -310378315, -144025924, -54031370], [1015931714, -3610169076946206, 441202908758582634, -790618584, -696369010, -139370777, 768624082, 129751389, 152920600, -10376431, -86048929], [-1233265416, -62622070399984646, -635653942485756344, -602899786, 147626264, -298014418, -141801880, 263161988, -17363142, -200242646, 80825630], [529770049, -26338757676899501, -1865764626393947574, 100267175, 164204078, 201717251, -892397006, 310880344, -126441679, 43416872, -48917413], [-1754335707, 11205895731389816, 1898058459212666137, -440805810, 363285651, -172498996, 279417437, -92070348, -17323678, 87825703, -153917652], [-2313408450, -18630479575890699, 493973695383360550, -560607590, -370622302, -466243336, 198191102, 27590131, 138080246, 107287948, 98751160], [-1037731823, -16556106640291290, -1589245248457268384, -775800418, -84265696, -367948881, 8045792, 78886113, -177070446, -902974, 144066663], [-355695464, -22276565209785398, -628915788646630780, -13787689, -372496980, 1144317223, -217807852, 94772789, -41338495, -79685845, -62625889], [-288546623, -10611516434328936, 339185755545434621, -344552216, -452250529, -784590895, -818651567, -15335679, -15077032, -117640968, 64821017]], [951589071, -1619070038, -1781590546, 1605465958, -502552906, 1342598326, -3186335406, -4742387892, -204522530, -551635385, 1352626033])
theorem ok_ctB53 : okB (53) ctB53 = true := by decide +kernel
def ctB55 : Cert := ([[-178538217, -21709611801349594, 931850040653428371, 1200449574, -780162607, -272427797, 1331446399, -92832515, -106555574, -18041108, 24344707], [1860433881, -5015829615599120, -237404119617983230, -493575789, -35217386, 226324987, -78145334, 305819939, 286890533, -31369750, -215168493], [325234719, -18191682611443149, -1178038666946977325, 437322881, 784639377, -283067485, 633287359, 216075800, 29153255, 37554052, -184205573], [707129455, -4197661306721342, 167788013705459407, -361811045, -675894683, -360015735, -1100133333, 153625263, -191194275, 9099010, -164493423], [2421419114, 34092734572182518, -1231402695882833940, -724535128, -401140444, 258694896, -849898980, -39313382, 27642776, 252293654, -78165392], [1470244320, 33565840233256858, 1680505420606352833, -589893321, 395390923, 209738657, 231282853, 68307759, -12270303, 184016089, -49310359], [789633385, 15010189772526660, -549693330571308055, -823477899, 28747651, 931639284, -526454163, 264094736, -100907501, 118999931, -16025964], [-1115315991, -5298691425262964, -758474329175603305, -105132449, 318555901, -45895754, 992978707, -109030246, 71499833, -185710707, -118977050], [-1530607209, 8580059540755401, 757925003455084130, 908470878, -411453642, -222078982, 477502378, 142616689, 154008530, -56285429, -64930998], [1408318737, 25337477483893513, -518342299845508666, 379650011, 186500738, 77318575, -183396322, -186101682, -83506915, -128034162, 98104935], [-178146363, -2643801729471874, 227696171640386804, 606129441, -415735684, 590184365, -442000828, -129720969, 73109575, -65634064, -145845547]], [2370199625, 3735716221, 358482264, 7764662, -11980451, 694447932, -1041844503, -1967385868, -3056531955, 3314219325, -496072945])
theorem ok_ctB55 : okB (55) ctB55 = true := by decide +kernel
def ctB57 : Cert := ([[1698338186, 28110711376352545, -993420532307979537, 421690202, 48132037, 132239282, -1520282421, 133494033, 205156662, 32782334, -159704382], [-211385547, -24381158779562208, -473655143771419439, -537809761, 551423355, 971424956, -507375115, 181063292, 48327673, -174166377, -58267748], [1072776929, -6817484871328880, -1130909180869324088, 305281764, -49565032, -1321861303, -512908056, 33929153, -15937092, -175383936, -17255343], [-799668665, -6681113097852904, -1347500666151067564, -341566169, 416148892, 664049053, 970622756, -41515347, 288420529, 3628894, 84184133], [1845740341, 5460475727507084, 1100669373268445694, 92026282, 41843946, 33708560, -109356490, -52448956, -299440282, -290899053, -19728752], [413725389, 9121574090122437, 1544108049825771072, -923644887, -708207424, -463058580, 454795072, 43179063, 111012991, 38884141, -54602292], [-1558574768, 2731563520478153, -1240305229311284954, 91396410, -48814174, 689858104, -609292034, -55584993, 157644374, -113247618, -195681800], [-1229182685, -9473756913062501, -1318960102410207394, -142505642, -574244854, -128565307, -566429418, 63952610, 166261146, 5704604, 231261613], [627366107, 27064589260048663, -118781852647249367, -803614489, 282754115, -26897658, -537273939, -97157201, -97893135, -21799723, -183810122], [-989808565, 15142899827485066, -863117141777773738, 25288965, -135612494, 376632121, 896996846, 160704663, -100028157, -56944510, -36570175], [-1153022587, 10898055120783395, 257919026839081706, 115647026, 514913550, -293488468, -81299118, -30766791, 143577630, -83682775, 70135564]], [2772894051, -456040185, 777790717, 3664770872, 2632615151, 403154459, -2551590694, -793981401, -400199142, -1771416942, -3691370741])
theorem ok_ctB57 : okB (57) ctB57 = true := by decide +kernel
def ctB59 : Cert := ([[1246358365, -10945777933568542, -930717479225363676, 348060491, 285009036, -379497585, -70841548, 215127621, -51285203, -248570270, -172640441], [716135695, -28236480030610839, -51992644493189072, -1795206259, -336709104, 785678150, 51419888, -36445571, 51840443, -47613989, 43763190], [-161111120, -12456745750727814, -1773869654723969074, -521167391, -1044089638, -354664909, 493628742, -233558543, 35097991, 74498371, -93650421], [1113294525, 36186167454433307, 702500924768334066, 16105320, 663929702, -497550886, 1243672186, 23603935, -19184936, -143679287, -535510], [537830990, 35063338691391405, -261385928803760942, 98044731, 323358214, -281229371, -931801638, 80213680, -91857731, 297579443, -68579923], [331647520, 283236552421059, -1835630915976898954, 191736431, 460390930, -173062558, -1448203890, -224181121, -38597975, 148460510, -17954062], [-187742887, -6077804085656115, -1379573064531510599, -460623265, 756267635, 454052453, -243656067, -114360784, -85066695, 235064664, -126247603], [1287079784, -20713684217213192, -1152409630444384845, 196937326, -636127183, 576336801, 25760287, -177413391, -71236030, 198836577, -8770199], [804152739, -25648808232586221, -2030491115100519622, 85070914, 261222526, 13262888, 539287778, 81180325, 73938574, 303025441, 120790888], [1019543489, -18471236144477211, 644971983672679266, 345990533, 257101366, -366243286, -144378710, 19875909, -150077309, 184281213, 68528890], [598647987, -607735980985774, 2189152292782470095, -208965310, 58100069, 92840694, 207101227, -117338444, 35955086, 49768395, -109016282]], [2517023182, 2474488135, -1492775625, 2934235097, 1785039840, 2650658831, -4109133316, 3960446487, 1677581302, -595574501, 2640230121])
theorem ok_ctB59 : okB (59) ctB59 = true := by decide +kernel
def ctB61 : Cert := ([[1506388527, 24915044513381648, -995787629164299823, 655517894, 957054075, 96299274, -122924299, -284480822, 137254826, -148708325, -164699942], [-2587958708, 4334114838497070, 296127476508687067, 1088699670, -459014935, 313634572, 129560295, 72616798, -163757094, -133432068, -195288980], [1462656664, 377655738554120, 2013287066072430085, -1435240143, 886869175, -268282714, 768043385, 84579022, -181220681, -5597874, 75091542], [1302476270, 21035448503328262, 668223199591421425, 1109609310, -773226021, 280152905, 127867797, -44234005, 84820690, -184235697, 10805329], [-2249532710, 2973448293912594, 61776370607729668, 1038640812, -590133716, 1090409469, -418575468, -6574221, -55136460, -27255153, 129009061], [16417466, -23313011921374015, -1538523458295453244, -955864663, -59077268, 388131205, -82589612, -49398244, 62622463, 7025397, -223048339], [-1388327320, -12353687714557375, 2482960141818651944, -577743575, -178180936, -442340366, -43404088, 44270641, 41651071, -116215940, 99535106], [-2744248223, -5885478401931980, -383369716179884486, 224878916, -331468418, -40563216, 754446306, -54827268, 44188252, 47431335, 28160368], [952084905, -3001085819788753, 50981110147468375, -672132059, 739597117, 77913187, 249308883, 177121052, 167330531, -147363648, 35517883], [362354105, -835195811179091, 1975660875788692239, -351493578, 339151141, 449488383, -133904021, -4467654, 128381882, 153532520, -114347721], [-1124999567, 18380144646264802, -222331214387111135, -621524816, -211512597, -78532362, -427618427, 159475236, -24199472, -118408983, 5540134]], [-1130122848, -833377205, 608287338, 2452526285, -947510175, 628667046, -1312066088, -2843271908, 160734300, -498867044, -1928948340])
theorem ok_ctB61 : okB (61) ctB61 = true := by decide +kernel
def ctB63 : Cert := ([[-822070505, 14984997102196714, 158162931873851667, -106745990, -852798127, 710612503, 365211391, 290651269, -39589354, -38642872, -271412209], [902422904, -10257589159882817, -1580218551441799136, 948038444, 340666720, 312939563, -409344864, 185394324, -56688972, 134471435, 43770307], [-100891661, -1418862775461230, 3840675998142717935, 427211068, 143802053, 240990965, -488360501, -218532437, -242325724, 38925818, -125387171], [-854496696, -8936377670613692, -1928780617495309240, -247876936, 502350616, 416081823, -303383448, -268319661, 97298440, -106621425, 172963799], [-1234195750, 6674713343767428, 1512221027403904631, -352082118, -421561699, -136708622, -645335693, -14842562, -281929642, 47489800, -31954174], [-571455546, 20864555943406041, 2034593878345323235, 48852930, -617789119, -117377453, -972274161, -180313790, 15337230, 121482053, -3927253], [657065634, 30997751516771044, 156701119659839172, -274638852, 147612780, 392224467, -189652652, 331666567, 27936356, 158782825, 4431787], [226544768, -7174333297222081, -783879697074929835, 191659182, -633300185, 644584512, 363376137, 208417425, 118200834, 284739072, 9463360], [1969530826, -6074931122887012, 1252168713077630036, -525694680, -571401828, 135867305, -921101532, -211638955, -152670440, -28092985, -9172047], [600113204, 17501059934815388, -1778113916621047373, 153120508, 290282545, 33856612, 705981983, 166049320, -58423452, 187048720, -158279036], [515240939, -12498575763132905, 11506314899068019, -862456089, 379527793, -302783225, -867345441, -9973384, 35360497, 35529572, -157888897]], [-1011190588, 374102030, -200382502, -2080438483, -3710378114, -945931616, 1252298533, -848562222, 4843111550, 1053058830, -856253044])
theorem ok_ctB63 : okB (63) ctB63 = true := by decide +kernel
def ctB65 : Cert := ([[489070602, -60263783166260644, 1011546217784545490, -571568749, -791326202, -536601378, 454545882, 195214386, 27758117, -223845396, 85975630], [961912317, -13920655449007555, 1471761542124017658, -88983191, -1480264514, 58455393, 835317922, -56755556, -96444097, -262790206, -84259543], [1983218096, 12280734837811277, -2159034162909254507, -17343673, -921424665, -1391834711, -222435255, -151080940, 161477009, -116877689, -17000015], [-693932207, -3924603660266072, -2259751005890897407, -423514311, -805570933, -549643537, -768692763, -182039169, 203900911, 83075766, 70173095], [-1126986771, 27516588325356985, -615508976409262046, -877186989, 103897718, -976217360, 452803690, 80243367, 41355621, -80276831, 115271280], [-1409463248, 5526350384468479, 828002101734706958, 99703515, -127239014, 486473721, 247845254, 223394578, 120743453, -190398285, 55770753], [152424398, -22717398128884, 436557054206131105, -304215860, -7980949, -429143779, 366060037, -233769479, 228321812, -77142785, 12188613], [1475741856, -12388905874133397, 629656293209886990, -240659986, -40643942, 232286674, -797353082, -26044089, -208345406, -128699572, -43606558], [54416313, 9975713005529930, -20728373801423143, 53733568, 524928979, 185398982, 32463645, -38860660, -114776768, 50441113, 289380726], [-1628948118, 1225497393424967, -1918002287313110611, 353815439, 262818031, -235072454, -177477951, -121940653, 29908617, -45227822, -64026230], [-1386904374, 5678916318164258, 614288584370700892, 665583631, -344610828, -397610741, -326381492, -15083167, 91520521, 9423029, -45757021]], [-194687479, -1253410062, 3718328213, -1827287446, -2359168849, 306421724, 367593001, 38650573, 120072279, -3005044089, -2785942634])
theorem ok_ctB65 : okB (65) ctB65 = true := by decide +kernel
def ctB67 : Cert := ([[-102448802, -7614595215549769, -720836936911981818, -415222117, -164658110, -4842799, 733636190, 10727026, -188034979, -408276225, -116035047], [1954235817, 724648294361982, -1385876249694318355, -966141610, -255858513, -157979001, -809667839, -96993887, 199303578, -76860274, 71418879], [1207735297, 15653839257190600, 608084321717985159, 690119064, 4294221, 885102633, 759505091, 32053993, -236846040, -61547328, -42779599], [17985360, 8294957311461047, 1296024980285524124, -299558583, 55102644, -212014944, -932157556, 290076153, -327715745, 257426676, -137812576], [-1138427848, -12415273547690291, -1237999106734587370, 259774490, -184471054, 304063654, -291532882, -432855495, 85246582, -120861462, -54682026], [883990380, -3758365839679070, 2018954104642832978, 694138349, 161106566, -422412796, -1174535846, 137844834, 15833691, 67914864, 1147172], [-355113196, 13047967422752849, 400755076398860889, -767962547, 788592211, 301442142, 86389917, -223993363, 160826619, 12456118, 31671758], [1455240832, -20560673399023352, -388896853533160647, -661650264, 904015859, -219674286, -49488643, 158596058, 1515416, 127779522, 110680418], [1350045448, -10127722045507853, -798673628982616477, -376623343, 78956481, 8691751, 972803983, -17665796, 168196055, -147174965, -198559073], [-1188624094, 4583335787114773, 225366981163864782, -135359463, 671761882, 377286590, -674059194, 160735561, 73293327, 88417176, -33229778], [527846398, -22970446732027616, 483387531392157953, -714702105, -512377973, 230429520, 580483301, 103542448, 26600177, 4264434, -890416]], [-1098309624, 2688572194, 3067189336, 495507441, 31171990, 1759466252, -110252588, 1696314956, 1955498268, -2506255765, -529919032])
theorem ok_ctB67 : okB (67) ctB67 = true := by decide +kernel
def ctB69 : Cert := ([[176843986, -22130619498718815, 3389760850568953587, -37996441, -694962703, 926072901, 841834591, 180221948, 163441009, 197712469, 226208301], [-79374177, -41725511562920046, -1759916227671388446, 1031078588, 1265648822, -807320383, -143636950, -113565225, -14026332, 112290446, -91283575], [1218787287, 16153161762398803, 916832279426087074, 672354770, 150925302, -164267446, -22356246, -168750825, 265583486, 27308609, 220294170], [2561218845, 9322604252659197, 256361692722199125, 41501756, -514546649, 495148274, 488273161, -104173643, 99374116, -65623353, -59768318], [-1996986646, -9673330559408324, -413106777719261692, -46776939, 590361644, -239864444, 70548884, -2862168, 243232499, 38860722, -177843036], [1609625378, -366817378988944, -1125297768801859601, 86208791, 727447237, -750009471, 722206155, -84739879, 34289729, -62574105, 213886025], [-1352890324, 8264338228758383, -308420445167314686, -221345393, 229032982, 708761021, 145667274, -50119290, -190459767, 239106175, -162175643], [-364344245, 3749318173753562, -1988006769789577729, 794758540, 713283957, 562183553, 254968347, 4376271, 11195220, 59015986, 11365961], [113643280, 5989972254586179, 2277466315776149276, -150790184, 276511796, 244088326, -44347380, 82154947, -46100504, -21672908, -207238474], [1954345572, -14784074578143751, -1461910218271124873, -287068371, 424898205, -258116508, -330481293, -2112901, 148169499, 22498922, 49443460], [-1199728222, -46246018889215, 278700786007872325, -437457425, -51302793, 354963498, 262181817, -158171031, 16986921, -164160238, 88004858]], [-51495439, 342958872, 26509776, 2330119188, -2175013531, 663528698, 66023023, -234705570, 1695346361, 2682660232, -1366651745])
theorem ok_ctB69 : okB (69) ctB69 = true := by decide +kernel
def ctB71 : Cert := ([[1601743046, -43457890866585664, 332277808603402445, 403892760, -744450225, -671111202, 266352225, 143133070, -118689880, 563368, 271320398], [-1699054353, -23061187548674394, -1575957303943425535, -133580387, -117760373, 65162905, -761002523, 47850011, -76114389, 78374098, 335165985], [-350750259, 20097992456345590, 1811872022549156245, -390252607, 203752423, -226314281, 642597193, 221138297, -90212697, -141582910, 40866767], [-1142448934, 15948904894985411, -292226126439924563, 286418161, -305468945, -335156465, -917989951, -18989484, 38675703, 318390645, 62827207], [-809605558, 3701596220240763, -890292326825512087, -258640557, -301530621, 996002404, 41836525, 178157017, 168610917, -191704318, -301074300], [-281794980, -6279721696051562, -716613980651034823, 21338369, 940221427, 120211383, -637228803, 70099897, 210278247, -10141085, -241497425], [1195976857, -11641791311720164, 1289149721063918062, -420800586, -148884422, 217496377, -387359770, 91196133, -237749702, -115041928, -76938303], [286857627, 9020058533001106, -962679413634088635, -100350275, 115026039, -271396523, -279791175, 44161547, -136192501, -190963806, -287354947], [-2370420521, -7510140950557044, 595162856025262062, -88833536, -644112838, 116953927, -548597274, -53446285, 45108736, -61181608, -83583297], [-457001993, 2186912249093, 600213192914669772, 399030006, 822525636, -239513623, 679660156, 40850460, -134656774, 101318882, -125206031], [780522197, -4119119192706336, -244116038628113081, -947307467, 405194125, -310762315, 521364867, 19215677, 98099539, 80022968, -136755683]], [811581646, -2260841025, -1296375508, 491407062, -222263880, 579921350, 2040237327, -299640821, -4205914069, -2630127590, -166808360])
theorem ok_ctB71 : okB (71) ctB71 = true := by decide +kernel
def ctB73 : Cert := ([[-488986368, 6020772055691480, 565189559075295379, 970832801, 582436817, -1073013854, 1167066239, 158466010, 181634503, -232741950, 88439346], [-1230888936, -20973351431144157, 1954973974942900657, 925189246, 64447259, -239472897, 382557781, -60483740, 10649266, -186934879, 240353847], [-352595406, 1204823003154474, 1634584867728942294, 322308297, -166834126, 778697149, 426812782, 193740187, -37498657, -197601489, 21277029], [-1380052285, 7670558020239251, -2143092772337190723, 420262823, -723876193, 23565469, -38830063, 34789122, -84312015, -71996364, -225787067], [1302321471, -15855947055951592, -2353533239053443942, 1044983146, -343967842, 808249847, -805571646, -222269353, 6067622, -29766128, -21139729], [50106767, -2482682637862909, -739503699287771337, -757435919, -199187747, -412455682, -711515853, 206063547, -97296393, 41787249, -262583442], [1174381487, 12127238918750555, -1016407619334944517, 125147045, -726013879, -157242110, -921849465, -97255417, -187880605, 157381637, -133816686], [-522803607, -14389235696172197, 1355193231059706142, 292214754, 312052554, -109635523, 1334241750, 5151578, -96736274, 149616766, -10773531], [392198396, 14868144110025688, -2532298581179825808, 716122106, 678315984, 38998131, -567011024, 63758579, -113711722, -52153569, 126293579], [-451012772, -15823442879512639, 1708154471954628408, 747439137, 245764968, 338225203, -483363560, -129027654, 161329479, 238218373, 25459723], [699014233, -13488682259503473, -1024456022383874808, 580401324, -504581288, 703481855, -309518296, 29923896, -33280716, 197377368, 150037303]], [3172580547, -2612479513, 1751153695, -5887680275, 3957447813, 951858496, 3328345529, 903752248, -1763628369, -2396069928, 354457085])
theorem ok_ctB73 : okB (73) ctB73 = true := by decide +kernel
def ctB75 : Cert := ([[91624035, -30372858229556459, 1761701313264069255, 864006828, -195297459, 434374071, 42170307, -434406454, 116802356, -71977120, -97961809], [-437468870, -19247788137701806, -1517048661171892797, 1355604614, 514490593, 496066621, -62893969, 169589619, -167554070, 63780531, -232905755], [420977291, -21873202498057035, -759815472706940800, 559181761, -63179392, -25448939, -1361231232, -238917128, -113836377, 84621574, -264265091], [1549847977, 17596728881314862, 125749499042482232, -283802240, -413239704, -1328055828, 49807896, 23810110, -36391296, 169101227, -17831348], [-99487135, 4853582505971902, -1041138164513615453, -805194380, -1240835199, 248958953, 486909903, 77259347, 89891244, -180503976, -88931855], [-381798572, 1510392883728196, 902645235799614235, 656418849, 145921961, 520461583, -146214873, -227979453, -202298041, 218241027, -41325369], [2168582823, 19983448397118609, 300078950786244697, 373282981, 716482643, 460508065, 234889885, 149858632, -97168797, -36243258, 19498345], [1382641498, -1482337140251069, 11218805431181524, -627974487, -566938852, 354728639, -8029788, 164120068, -93987329, 37287001, 211057655], [-553218934, -1140805424813366, -1012451363666368854, 557497244, -620745138, -314300968, -98049006, -192885202, -109159484, -27584650, 185341592], [-1676908286, 8327366943642934, 543177984618104122, 724212178, -435468674, 149543851, -376935710, -107000403, 141718398, -34249959, 110658883], [-95293515, 1837836098469117, 1157159173846316518, -247848986, 41997282, -375599409, -311830338, 58587962, -203291254, -3801754, -100762489]], [2032072891, -384747889, 1772506655, 2189882771, 87924015, -1540702605, 3677560760, 2193499630, -140562973, -1255803957, -1899731426])
theorem ok_ctB75 : okB (75) ctB75 = true := by decide +kernel
def ctB77 : Cert := ([[-933000077, -31203005461579923, -1575011023243913060, -10910840, -462734156, 302569884, -1629423732, -163606337, 253766584, 183671171, -90649732], [-339526010, 18408723971909502, -507043289816850262, -702700429, -392319922, 603517478, 409716242, -235866760, -45039035, 80789196, -222201898], [-2736018151, 12561174172634981, 168713648276802260, -34927932, 143671580, 649536254, 1064881060, 84742969, 82277596, 189244511, -80989842], [-2464753785, 32545892042984956, 1315544716299031803, 935341092, -284595127, 648270207, 902000007, -80648965, -88939908, 33486776, 173037751], [595456317, 16876294042052473, 2135882086090430376, 317939425, 349132856, 1014876554, 1482137928, -15561775, -6146937, -17390257, 55354714], [-458627840, 14721978501036346, 851626541749690699, -613552237, -458089543, 739447945, 916283671, 59198903, -84411355, -230210011, 130769809], [440099527, -30737217406376440, 257062812383946436, 155277136, -939594644, -895920217, -131983020, -110390377, 303408, 55004088, -37990881], [-1439281252, 11870802780116276, -344046627604372756, -277263513, 144102948, 908279534, -286318308, 18433642, -177697167, 224391466, 44818654], [-1700341547, 1252074030376187, -838966602792752442, 220575642, 450644354, 56472093, 790431006, -59727718, 57257718, 36067398, 208530629], [-958455179, -2124045760215251, 308459241963096640, 763187536, 581439680, 556551293, 406678336, 17038248, -201967824, -22692598, -46489051], [-143495844, -4355720824028296, 2126255689182267458, -574901525, 592145366, 69573514, 125548810, 13238370, -128166771, -73785938, -107444390]], [-1238560525, 295824201, -2434991775, -2531800588, 4092067824, -1307102650, 335606654, 1407262431, -1235516896, -856547194, -2850411766])
theorem ok_ctB77 : okB (77) ctB77 = true := by decide +kernel
def ctB79 : Cert := ([[300445692, 19420685629410330, -1254607629879627104, -529093997, -782959392, 427288810, 651929888, 204439808, 122894629, -225308962, 83412922], [54903304, 35333026467182322, -778230735155666846, 587589629, -646642378, 530900475, 295513514, 33194753, -262127925, -125148181, 74898963], [-458272024, -34626237934285667, 1427148110492966216, 14899686, -779803112, -891732962, 367970664, -261648223, 180902794, -31349226, 186280846], [-901754264, -24331015485239305, 2864630038853713023, 452237597, 153993461, 21332088, -215780709, 133747025, -17661269, 180716320, -33898952], [769748114, -3042804852065457, 87635209775966186, -396827223, -1263150066, -49848176, 314032722, -66631855, -38686977, 252838702, 187633936], [-1607600770, 7104315550675682, -677486101253013224, 217040088, -306374648, -601589208, 285852280, -129000602, -190909720, -130292758, -291927704], [-636825000, 81198720017058, -1024259192358502118, -325666868, -329348834, -1053823672, -672998846, -57773114, 258102036, -132713712, 140995976], [643744235, 17024368660783587, 1723616199597223674, -166345547, -293686850, 601344214, 161104802, 103320691, 78105811, 189502139, -61290490], [-599712783, 24899203598944574, -269287488158109635, -999208551, 391735583, -190375227, 247653777, 48322703, 44131471, -38706164, 252754093], [-251035966, 14055877203496160, -1485570477596551231, 78009918, 921533899, 723687213, 249506469, 111934325, 136225522, 134421747, 59508309], [1271892502, 17332512248030351, 337806155679509448, 115915090, 823592344, -373750983, 303907304, 217064642, 49094654, 19280667, 169118657]], [-643129725, -1621101550, -538237774, -5142592826, 286430481, -2784568641, -1776239435, 1153043297, -3176680425, -3827918183, 3466130562])
theorem ok_ctB79 : okB (79) ctB79 = true := by decide +kernel
def ctB81 : Cert := ([[-1713925, 10290842672729670, -527590698862896669, -227094419, -506456511, -689949309, 142117135, -264649163, 34685915, -188811964, 283078619], [-1182214209, -54334142680831343, -874703304137166450, -737240917, -920078310, 1226110876, -535253498, 261828443, -85670707, 33049467, -44803716], [151985255, 15293073985130041, 2767636870077784059, 488763425, 599336265, -1865686413, -86997881, -334386174, -51862201, 90251346, -68421557], [-1576879665, -11639203090613239, -707756218729850709, 80836866, -644633383, 1603424784, -420378121, 185913207, -175128626, 54977039, 196914832], [-821558006, 23811714206343362, 131542246967382797, 713948169, 428101647, -677711149, -356615775, -83269175, 297840543, -123483875, -55749717], [937275086, 164603509786148, -244307286523800165, 775618917, 819168041, -1037698264, 396369063, -277340156, 159954851, 135497522, 15454824], [-1305893751, -14216045274423097, 1182069059049209551, -587544943, -939670939, 771357765, 124105771, 40153974, 131755095, 184181814, 5883437], [1561095754, 10850039354916513, -362632624179776140, -504943884, -676977156, -683132639, -371979068, -155183176, 73001004, 246318029, 44203753], [1463567155, 3091438081212577, 1643199832711717951, 267476053, -305981899, -410280410, -344293029, -319653211, 12504627, -12553471, -48593962], [1216509454, 12737171798155450, 1526894831450054716, 313926672, -353541996, -721356360, -310859348, 18070558, 73990768, -29906890, 125432184], [65380491, -5353877625483911, -1364922406281989993, 65099766, -579778051, 88484760, 627381267, 123484879, -85322758, 6912123, -97412520]], [-1654517652, -811895899, -4053157789, -2098660214, -3156642450, 1162723507, -1750984661, 451042158, 2893766720, 3244853381, -1005410399])
theorem ok_ctB81 : okB (81) ctB81 = true := by decide +kernel
theorem allB : ∀ c : Int, c % 2 = 1 → -81 ≤ c → c ≤ 81 → ∃ t, okB c t = true := by
  intro c h1 h2 h3
  have h : c = -81 ∨ c = -79 ∨ c = -77 ∨ c = -75 ∨ c = -73 ∨ c = -71 ∨ c = -69 ∨ c = -67 ∨ c = -65 ∨ c = -63 ∨ c = -61 ∨ c = -59 ∨ c = -57 ∨ c = -55 ∨ c = -53 ∨ c = -51 ∨ c = -49 ∨ c = -47 ∨ c = -45 ∨ c = -43 ∨ c = -41 ∨ c = -39 ∨ c = -37 ∨ c = -35 ∨ c = -33 ∨ c = -31 ∨ c = -29 ∨ c = -27 ∨ c = -25 ∨ c = -23 ∨ c = -21 ∨ c = -19 ∨ c = -17 ∨ c = -15 ∨ c = -13 ∨ c = -11 ∨ c = -9 ∨ c = -7 ∨ c = -5 ∨ c = -3 ∨ c = -1 ∨ c = 1 ∨ c = 3 ∨ c = 5 ∨ c = 7 ∨ c = 9 ∨ c = 11 ∨ c = 13 ∨ c = 15 ∨ c = 17 ∨ c = 19 ∨ c = 21 ∨ c = 23 ∨ c = 25 ∨ c = 27 ∨ c = 29 ∨ c = 31 ∨ c = 33 ∨ c = 35 ∨ c = 37 ∨ c = 39 ∨ c = 41 ∨ c = 43 ∨ c = 45 ∨ c = 47 ∨ c = 49 ∨ c = 51 ∨ c = 53 ∨ c = 55 ∨ c = 57 ∨ c = 59 ∨ c = 61 ∨ c = 63 ∨ c = 65 ∨ c = 67 ∨ c = 69 ∨ c = 71 ∨ c = 73 ∨ c = 75 ∨ c = 77 ∨ c = 79 ∨ c = 81 := by omega
  rcases h with rfl | rfl | rfl | rfl | rfl | rfl | rfl | rfl | rfl | rfl | rfl | rfl | rfl | rfl | rfl | rfl | rfl | rfl | rfl | rfl | rfl | rfl | rfl | rfl | rfl | rfl | rfl | rfl | rfl | rfl | rfl | rfl | rfl | rfl | rfl | rfl | rfl | rfl | rfl | rfl | rfl | rfl | rfl | rfl | rfl | rfl | rfl | rfl | rfl | rfl | rfl | rfl | rfl | rfl | rfl | rfl | rfl | rfl | rfl | rfl | rfl | rfl | rfl | rfl | rfl | rfl | rfl | rfl | rfl | rfl | rfl | rfl | rfl | rfl | rfl | rfl | rfl | rfl | rfl | rfl | rfl | rfl
  · exact ⟨_, ok_ctBm81⟩
  · exact ⟨_, ok_ctBm79⟩
  · exact ⟨_, ok_ctBm77⟩
  · exact ⟨_, ok_ctBm75⟩
  · exact ⟨_, ok_ctBm73⟩
  · exact ⟨_, ok_ctBm71⟩
  · exact ⟨_, ok_ctBm69⟩
  · exact ⟨_, ok_ctBm67⟩
  · exact ⟨_, ok_ctBm65⟩
  · exact ⟨_, ok_ctBm63⟩
  · exact ⟨_, ok_ctBm61⟩
  · exact ⟨_, ok_ctBm59⟩
  · exact ⟨_, ok_ctBm57⟩
  · exact ⟨_, ok_ctBm55⟩
  · exact ⟨_, ok_ctBm53⟩
  · exact ⟨_, ok_ctBm51⟩
  · exact ⟨_, ok_ctBm49⟩
  · exact ⟨_, ok_ctBm47⟩
  · exact ⟨_, ok_ctBm45⟩
  · exact ⟨_, ok_ctBm43⟩
  · exact ⟨_, ok_ctBm41⟩
  · exact ⟨_, ok_ctBm39⟩
  · exact ⟨_, ok_ctBm37⟩
  · exact ⟨_, ok_ctBm35⟩
  · exact ⟨_, ok_ctBm33⟩
  · exact ⟨_, ok_ctBm31⟩
  · exact ⟨_, ok_ctBm29⟩
  · exact ⟨_, ok_ctBm27⟩
  · exact ⟨_, ok_ctBm25⟩
  · exact ⟨_, ok_ctBm23⟩
  · exact ⟨_, ok_ctBm21⟩
  · exact ⟨_, ok_ctBm19⟩
  · exact ⟨_, ok_ctBm17⟩
  · exact ⟨_, ok_ctBm15⟩
  · exact ⟨_, ok_ctBm13⟩
  · exact ⟨_, ok_ctBm11⟩
  · exact ⟨_, ok_ctBm9⟩
  · exact ⟨_, ok_ctBm7⟩
  · exact ⟨_, ok_ctBm5⟩
  · exact ⟨_, ok_ctBm3⟩
  · exact ⟨_, ok_ctBm1⟩
  · exact ⟨_, ok_ctB1⟩
  · exact ⟨_, ok_ctB3⟩
  · exact ⟨_, ok_ctB5⟩
  · exact ⟨_, ok_ctB7⟩
  · exact ⟨_, ok_ctB9⟩
  · exact ⟨_, ok_ctB11⟩
  · exact ⟨_, ok_ctB13⟩
  · exact ⟨_, ok_ctB15⟩
  · exact ⟨_, ok_ctB17⟩
  · exact ⟨_, ok_ctB19⟩
  · exact ⟨_, ok_ctB21⟩
  · exact ⟨_, ok_ctB23⟩
  · exact ⟨_, ok_ctB25⟩
  · exact ⟨_, ok_ctB27⟩
  · exact ⟨_, ok_ctB29⟩
  · exact ⟨_, ok_ctB31⟩
  · exact ⟨_, ok_ctB33⟩
  · exact ⟨_, ok_ctB35⟩
  · exact ⟨_, ok_ctB37⟩
  · exact ⟨_, ok_ctB39⟩
  · exact ⟨_, ok_ctB41⟩
  · exact ⟨_, ok_ctB43⟩
  · exact ⟨_, ok_ctB45⟩
  · exact ⟨_, ok_ctB47⟩
  · exact ⟨_, ok_ctB49⟩
  · exact ⟨_, ok_ctB51⟩
  · exact ⟨_, ok_ctB53⟩
  · exact ⟨_, ok_ctB55⟩
  · exact ⟨_, ok_ctB57⟩
  · exact ⟨_, ok_ctB59⟩
  · exact ⟨_, ok_ctB61⟩
  · exact ⟨_, ok_ctB63⟩
  · exact ⟨_, ok_ctB65⟩
  · exact ⟨_, ok_ctB67⟩
  · exact ⟨_, ok_ctB69⟩
  · exact ⟨_, ok_ctB71⟩
  · exact ⟨_, ok_ctB73⟩
  · exact ⟨_, ok_ctB75⟩
  · exact ⟨_, ok_ctB77⟩
  · exact ⟨_, ok_ctB79⟩
  · exact ⟨_, ok_ctB81⟩
end TH
end
section
set_option Elab.async false
set_option linter.all false
set_option maxRecDepth 100000
namespace TH
open PySem
/-! the hash of a pair, step by step -/
abbrev nM : Nat := 18446744073709551616
abbrev n1 : Nat := 11400714785074694791
abbrev n2 : Nat := 14029467366897019727
abbrev n5 : Nat := 2870177450012600261
abbrev nC : Nat := 2 ^^^ (n5 ^^^ 3527539)
def hA (x h : Nat) : Nat := (x + h * n2) % nM
def hR (a : Nat) : Nat := a * 2147483648 % nM + a / 8589934592
def hS (x h : Nat) : Nat := hR (hA x h) * n1 % nM
def hY (h k : Nat) : Nat := (hS (hS n5 h) k + nC) % nM
def hP (y : Nat) : Int := if y = nM - 1 then 1546275796 else if y < 9223372036854775808 then (y : Int) else (y : Int) - (nM : Nat)
theorem hP_low {y : Nat} (h : y < nM) (n : y ≠ nM - 1) : (hP y % 18446744073709551616).toNat = y ∧ reduceHash (hP y) = hP y := by
  unfold hP reduceHash
  rw [if_neg n]
  have hy : y < 18446744073709551616 := h
  have hn : y ≠ 18446744073709551615 := n
  by_cases c : y < 9223372036854775808
  · rw [if_pos c]
    refine ⟨by omega, ?_⟩
    have a1 : (-(2 ^ 63 : Int) ≤ (y : Int) && decide ((y : Int) < 2 ^ 63)) = true := by
      rw [Bool.and_eq_true, decide_eq_true_eq, decide_eq_true_eq]
      exact ⟨by omega, by omega⟩
    rw [if_pos a1]
    have a2 : ¬ ((y : Int) == -1) = true := by
      rw [beq_iff_eq]; omega
    rw [if_neg a2]
  · rw [if_neg c]
    have e : ((nM : Nat) : Int) = 18446744073709551616 := rfl
    rw [e]
    refine ⟨by omega, ?_⟩
    have a1 : (-(2 ^ 63 : Int) ≤ (y : Int) - 18446744073709551616 && decide ((y : Int) - 18446744073709551616 < 2 ^ 63)) = true := by
      rw [Bool.and_eq_true, decide_eq_true_eq, decide_eq_true_eq]
      exact ⟨by omega, by omega⟩
    rw [if_pos a1]
    have a2 : ¬ ((y : Int) - 18446744073709551616 == -1) = true := by
      rw [beq_iff_eq]; omega
    rw [if_neg a2]
/-! congruences -/
def Cg (a b : Int) : Prop := cM ∣ a - b
theorem Cg.refl (a : Int) : Cg a a := ⟨0, by rw [Int.sub_self, Int.mul_zero]⟩
theorem Cg.trans {a b c : Int} (h : Cg a b) (h2 : Cg b c) : Cg a c := by
  have := Int.dvd_add h h2
  rwa [show a - b + (b - c) = a - c by omega] at this
theorem Cg.symm {a b : Int} (h : Cg a b) : Cg b a := by
  have := Int.dvd_neg.mpr h
  rwa [show -(a - b) = b - a by omega] at this
theorem Cg.add {a b c d : Int} (h : Cg a b) (h2 : Cg c d) : Cg (a + c) (b + d) := by
  have := Int.dvd_add h h2
  rwa [show a - b + (c - d) = a + c - (b + d) by omega] at this
theorem Cg.sub {a b c d : Int} (h : Cg a b) (h2 : Cg c d) : Cg (a - c) (b - d) := by
  have := Int.dvd_sub h h2
  rwa [show a - b - (c - d) = a - c - (b - d) by omega] at this
theorem Cg.mul (k : Int) {a b : Int} (h : Cg a b) : Cg (k * a) (k * b) := by
  have := Int.dvd_mul_of_dvd_right (b := k) h
  rwa [Int.mul_sub] at this
theorem cg_mod (x : Nat) : Cg ((x % nM : Nat) : Int) (x : Int) := ⟨-((x / nM : Nat) : Int), by
  have := Nat.div_add_mod x nM
  show ((x % nM : Nat) : Int) - (x : Int) = 18446744073709551616 * -((x / nM : Nat) : Int)
  have e : (18446744073709551616 : Nat) * (x / 18446744073709551616) + x % 18446744073709551616 = x := this
  show ((x % 18446744073709551616 : Nat) : Int) - (x : Int) = 18446744073709551616 * -((x / 18446744073709551616 : Nat) : Int)
  omega⟩
theorem cg_hA (x h : Nat) : Cg (hA x h : Int) (x + c2 * h) := by
  refine (cg_mod _).trans ?_
  have e : ((x + h * n2 : Nat) : Int) = x + c2 * h := by
    rw [Int.natCast_add, Int.natCast_mul]
    congr 1
    exact Int.mul_comm _ _
  rw [e]
  exact Cg.refl _
theorem cg_hR (a : Nat) : Cg (hR a : Int) (e31 * a + ((a / 8589934592 : Nat) : Int)) := by
  unfold hR
  rw [Int.natCast_add]
  refine Cg.add ((cg_mod _).trans ?_) (Cg.refl _)
  have e : ((a * 2147483648 : Nat) : Int) = e31 * a := by rw [Int.natCast_mul]; exact Int.mul_comm _ _
  rw [e]
  exact Cg.refl _
theorem cg_hS (x h : Nat) : Cg (hS x h : Int) (c1 * (hR (hA x h) : Nat)) := by
  refine (cg_mod _).trans ?_
  have e : ((hR (hA x h) * n1 : Nat) : Int) = c1 * (hR (hA x h) : Nat) := by rw [Int.natCast_mul]; exact Int.mul_comm _ _
  rw [e]
  exact Cg.refl _
theorem cg_hY (h k : Nat) : Cg (hY h k : Int) (c1 * (hR (hA (hS n5 h) k) : Nat) + (nC : Nat)) := by
  refine (cg_mod _).trans ?_
  rw [Int.natCast_add]
  exact Cg.add (cg_hS _ _) (Cg.refl _)
theorem hA_lt (x h : Nat) : hA x h < nM := Nat.mod_lt _ (by decide)
theorem hY_lt (h k : Nat) : hY h k < nM := Nat.mod_lt _ (by decide)
/-- quotient and rest of a difference -/
def qd (a b : Nat) : Int := ((a / 8589934592 : Nat) : Int) - ((b / 8589934592 : Nat) : Int)
def rd (a b : Nat) : Int := ((a % 8589934592 : Nat) : Int) - ((b % 8589934592 : Nat) : Int)
theorem qr (a b : Nat) : (a : Int) - b = e33 * qd a b + rd a b := by
  unfold qd rd
  show (a : Int) - b = 8589934592 * (((a / 8589934592 : Nat) : Int) - ((b / 8589934592 : Nat) : Int)) + (((a % 8589934592 : Nat) : Int) - ((b % 8589934592 : Nat) : Int))
  omega
theorem q_box {a b : Nat} (ha : a < nM) (hb : b < nM) : -2147483647 ≤ qd a b ∧ qd a b ≤ 2147483647 := by
  have ha : a < 18446744073709551616 := ha
  have hb : b < 18446744073709551616 := hb
  unfold qd
  omega
theorem r_box (a b : Nat) : -8589934591 ≤ rd a b ∧ rd a b ≤ 8589934591 := by
  unfold rd
  omega
/-- the difference of two turned words -/
theorem cg_dR (a b : Nat) : Cg ((hR a : Int) - hR b) (e31 * ((a : Int) - b) + qd a b) := by
  refine (Cg.sub (cg_hR a) (cg_hR b)).trans ?_
  unfold qd
  rw [Int.mul_sub]
  rw [show e31 * (a : Int) + ((a / 8589934592 : Nat) : Int) - (e31 * (b : Int) + ((b / 8589934592 : Nat) : Int)) = e31 * (a : Int) - e31 * (b : Int) + (((a / 8589934592 : Nat) : Int) - ((b / 8589934592 : Nat) : Int)) by omega]
  exact Cg.refl _
end TH
end
section
set_option Elab.async false
set_option linter.all false
namespace TH
open PySem
def fin64 (m y : Nat) : Int := if y == m - 1 then 1546275796 else if y < 2 ^ 63 then y else (y : Int) - m
theorem t3 (hs : List Int) : Builtin.Tuple.tupleHashOf hs = (let m : Nat := 2 ^ 64; fin64 m ((hs.foldl (init := 2870177450012600261) (fun acc h => (((((acc + (h % (m : Int)).toNat * 14029467366897019727) % m) * 2 ^ 31) % m + ((acc + (h % (m : Int)).toNat * 14029467366897019727) % m) / 2 ^ 33) * 11400714785074694791) % m) + (hs.length ^^^ (2870177450012600261 ^^^ 3527539))) % m)) := by
  delta Builtin.Tuple.tupleHashOf fin64
  with_reducible rfl
end TH
end
section
set_option Elab.async false
set_option linter.all false
namespace TH
open PySem
def stV (m p1 p2 e31 e33 acc n : Nat) : Nat := ((((acc + n * p2) % m) * e31) % m + ((acc + n * p2) % m) / e33) * p1 % m
theorem two_V (m p1 p2 p5 e31 e33 : Nat) (h k : Int) :
    (List.foldl (fun acc (h : Int) => (((((acc + (h % (m : Int)).toNat * p2) % m) * e31) % m + ((acc + (h % (m : Int)).toNat * p2) % m) / e33) * p1) % m) p5 [h, k]) = stV m p1 p2 e31 e33 (stV m p1 p2 e31 e33 p5 (h % (m : Int)).toNat) (k % (m : Int)).toNat := rfl
end TH
end
section
set_option Elab.async false
set_option linter.all false
namespace TH
open PySem
theorem tuple_V (h k : Int) : ∃ m : Nat, m = 18446744073709551616 ∧ Builtin.Tuple.tupleHashOf [h, k] = fin64 m ((stV m 11400714785074694791 14029467366897019727 (2 ^ 31) (2 ^ 33) (stV m 11400714785074694791 14029467366897019727 (2 ^ 31) (2 ^ 33) 2870177450012600261 (h % (m : Int)).toNat) (k % (m : Int)).toNat + ([h, k].length ^^^ (2870177450012600261 ^^^ 3527539))) % m) := by
  refine ⟨2 ^ 64, by decide, ?_⟩
  rw [t3]
  generalize (2 : Nat) ^ 64 = m
  dsimp only
  rw [two_V]
end TH
end
section
set_option Elab.async false
set_option linter.all false
namespace TH
open PySem
theorem stV_hS (x n : Nat) : stV nM n1 n2 2147483648 8589934592 x n = hS x n := by
  unfold stV hS hR hA
  exact Eq.refl _
theorem fin_hP {m y : Nat} (hm : m = nM) (p63 : (2 : Nat) ^ 63 = 9223372036854775808) : fin64 m y = hP y := by
  unfold fin64 hP
  rw [p63, hm]
  by_cases c : y = nM - 1
  · rw [if_pos (beq_iff_eq.mpr c), if_pos c]
  · rw [if_neg (fun z => c (beq_iff_eq.mp z)), if_neg c]
end TH
end
section
set_option Elab.async false
set_option linter.all false
namespace TH
open PySem
theorem tuple_two_ok (h k : Int) : Builtin.Tuple.tupleHashOf [h, k] = hP (hY (h % 18446744073709551616).toNat (k % 18446744073709551616).toNat) := by
  obtain ⟨m, hm, e⟩ := tuple_V h k
  have hm' : m = nM := hm
  rw [e, fin_hP hm' (by decide)]
  have hi : (m : Int) = 18446744073709551616 := by rw [hm]; rfl
  rw [hi, hm']
  have p31 : (2 : Nat) ^ 31 = 2147483648 := by decide
  have p33 : (2 : Nat) ^ 33 = 8589934592 := by decide
  rw [p31, p33, stV_hS, stV_hS]
  have pC : [h, k].length ^^^ (2870177450012600261 ^^^ 3527539) = nC := by
    rw [show [h, k].length = 2 from rfl]
  rw [pC]
  unfold hY
  exact Eq.refl _
end TH
end
section
set_option Elab.async false
set_option linter.all false
set_option maxRecDepth 100000
namespace TH
open PySem
theorem relA (s s' b b' : Nat) : Cg ((hA s b : Int) - hA s' b') (((s : Int) - s') + c2 * ((b : Int) - b')) := by
  refine (Cg.sub (cg_hA s b) (cg_hA s' b')).trans ?_
  rw [Int.mul_sub]
  rw [show (s : Int) + c2 * b - (s' + c2 * b') = (s : Int) - s' + (c2 * b - c2 * b') by omega]
  exact Cg.refl _
theorem relS (x h x' h' : Nat) : Cg ((hS x h : Int) - hS x' h') (c1 * (e31 * ((hA x h : Int) - hA x' h') + qd (hA x h) (hA x' h'))) := by
  refine (Cg.sub (cg_hS x h) (cg_hS x' h')).trans ?_
  rw [← Int.mul_sub]
  exact (cg_dR _ _).mul c1
theorem relY (h k h' k' : Nat) : Cg ((hY h k : Int) - hY h' k') (c1 * (e31 * ((hA (hS n5 h) k : Int) - hA (hS n5 h') k') + qd (hA (hS n5 h) k) (hA (hS n5 h') k'))) := by
  refine (Cg.sub (cg_hY h k) (cg_hY h' k')).trans ?_
  rw [show ∀ a b c : Int, a + c - (b + c) = a - b from fun a b c => by omega, ← Int.mul_sub]
  exact (cg_dR _ _).mul c1
/-- a difference by quotient and rest -/
theorem rel_of {a b : Nat} {t : Int} (h : Cg ((a : Int) - b) t) : cM ∣ t - (e33 * qd a b + rd a b) := by
  rw [← qr]
  have := Int.dvd_neg.mpr h
  rwa [show -(((a : Int) - b) - t) = t - ((a : Int) - b) by omega] at this
end TH
end
section
set_option Elab.async false
set_option linter.all false
set_option maxRecDepth 100000
namespace TH
open PySem
theorem dot_app : ∀ {a b : List Int} (c d : List Int), a.length = b.length → dot (a ++ c) (b ++ d) = dot a b + dot c d
  | [], [], c, d, _ => by show dot c d = 0 + dot c d; rw [Int.zero_add]
  | x :: a, y :: b, c, d, h => by
    show x * y + dot (a ++ c) (b ++ d) = x * y + dot a b + dot c d
    rw [dot_app c d (by simpa using h), Int.add_assoc]
theorem mulL_len (k : Int) : ∀ a : List Int, (mulL k a).length = a.length
  | [] => rfl
  | _ :: a => by show (mulL k a).length + 1 = a.length + 1; rw [mulL_len k a]
theorem addL_len : ∀ {a b : List Int}, a.length = b.length → (addL a b).length = a.length
  | [], [], _ => rfl
  | _ :: a, _ :: b, h => by show (addL a b).length + 1 = a.length + 1; rw [addL_len (by simpa using h)]
end TH
end
section
set_option Elab.async false
set_option linter.all false
set_option maxRecDepth 100000
namespace TH
open PySem
def jW (v b c e : Nat) : Nat := hA (hS n5 (hY v b)) (hY c e)
theorem Cg.eq {a b : Int} (h : a = b) : Cg a b := h ▸ Cg.refl a
section
variable (v b c e b' c' e' : Nat)
abbrev kx1 := qd (hA (hS n5 v) b) (hA (hS n5 v) b')
abbrev kx2 := qd (hA n5 (hY v b)) (hA n5 (hY v b'))
abbrev kx3 := qd (hA n5 c) (hA n5 c')
abbrev kx4 := qd (hA (hS n5 c) e) (hA (hS n5 c') e')
theorem ch1 : Cg ((hA (hS n5 v) b : Int) - hA (hS n5 v) b') (c2 * ((b : Int) - b')) := (relA _ _ _ _).trans (Cg.eq (by omega))
theorem chY : Cg ((hY v b : Int) - hY v b') (c1 * (e31 * (c2 * ((b : Int) - b')) + kx1 v b b')) := (relY _ _ _ _).trans (Cg.mul c1 (Cg.add (Cg.mul e31 (ch1 v b b')) (Cg.refl _)))
theorem ch2 : Cg ((hA n5 (hY v b) : Int) - hA n5 (hY v b')) (c2 * (c1 * (e31 * (c2 * ((b : Int) - b')) + kx1 v b b'))) := (relA _ _ _ _).trans ((Cg.add (Cg.refl _) (Cg.mul c2 (chY v b b'))).trans (Cg.eq (by omega)))
theorem ch3 : Cg ((hA n5 c : Int) - hA n5 c') (c2 * ((c : Int) - c')) := (relA _ _ _ _).trans (Cg.eq (by omega))
theorem chS : Cg ((hS n5 c : Int) - hS n5 c') (c1 * (e31 * (c2 * ((c : Int) - c')) + kx3 c c')) := (relS _ _ _ _).trans (Cg.mul c1 (Cg.add (Cg.mul e31 (ch3 c c')) (Cg.refl _)))
theorem ch4 : Cg ((hA (hS n5 c) e : Int) - hA (hS n5 c') e') (c1 * (e31 * (c2 * ((c : Int) - c')) + kx3 c c') + c2 * ((e : Int) - e')) := (relA _ _ _ _).trans (Cg.add (chS c c') (Cg.refl _))
theorem ch5 : Cg ((hY c e : Int) - hY c' e') (c1 * (e31 * (c1 * (e31 * (c2 * ((c : Int) - c')) + kx3 c c') + c2 * ((e : Int) - e')) + kx4 c e c' e')) := (relY _ _ _ _).trans (Cg.mul c1 (Cg.add (Cg.mul e31 (ch4 c e c' e')) (Cg.refl _)))
theorem ch6 : Cg ((jW v b c e : Int) - jW v b' c' e') (c1 * (e31 * (c2 * (c1 * (e31 * (c2 * ((b : Int) - b')) + kx1 v b b'))) + kx2 v b b') + c2 * (c1 * (e31 * (c1 * (e31 * (c2 * ((c : Int) - c')) + kx3 c c') + c2 * ((e : Int) - e')) + kx4 c e c' e'))) :=
  (relA _ _ _ _).trans (Cg.add ((relS _ _ _ _).trans (Cg.mul c1 (Cg.add (Cg.mul e31 (ch2 v b b')) (Cg.refl _)))) (Cg.mul c2 (ch5 c e c' e')))
end
end TH
end
section
set_option Elab.async false
set_option linter.all false
set_option maxRecDepth 100000
namespace TH
open PySem
abbrev cI1 : Int := 614540362697595703
theorem can_c1 {x : Int} (h : cM ∣ c1 * x) : cM ∣ x := by
  have h1 : cM ∣ cI1 * (c1 * x) := Int.dvd_mul_of_dvd_right h
  have h2 : cM ∣ (cI1 * c1 - 1) * x := Int.dvd_trans (Int.dvd_of_emod_eq_zero (by decide)) ⟨x, rfl⟩
  have := Int.dvd_sub h1 h2
  rwa [show cI1 * (c1 * x) - (cI1 * c1 - 1) * x = x by rw [Int.sub_mul, Int.mul_assoc, Int.one_mul]; omega] at this
end TH
end
section
set_option Elab.async false
set_option linter.all false
set_option maxRecDepth 100000
namespace TH
open PySem
theorem turn_low (a : Nat) : a * 2147483648 % 18446744073709551616 = (a % 8589934592) * 2147483648 := Nat.mul_mod_mul_right 2147483648 a 8589934592
theorem hR_inj {a b : Nat} (ha : a < nM) (hb : b < nM) (h : hR a = hR b) : a = b := by
  have ha : a < 18446744073709551616 := ha
  have hb : b < 18446744073709551616 := hb
  have h : a * 2147483648 % 18446744073709551616 + a / 8589934592 = b * 2147483648 % 18446744073709551616 + b / 8589934592 := h
  rw [turn_low, turn_low] at h
  omega
theorem hR_lt {a : Nat} (ha : a < nM) : hR a < nM := by
  have ha : a < 18446744073709551616 := ha
  show a * 2147483648 % 18446744073709551616 + a / 8589934592 < 18446744073709551616
  omega
theorem hR_cancel {a b : Nat} (ha : a < nM) (hb : b < nM) (h : Cg (c1 * (hR a : Nat)) (c1 * (hR b : Nat))) : a = b := by
  have h1 : cM ∣ c1 * ((hR a : Int) - (hR b : Int)) := by
    rw [Int.mul_sub]; exact h
  obtain ⟨q, hq⟩ := can_c1 h1
  have l1 : hR a < 18446744073709551616 := hR_lt ha
  have l2 : hR b < 18446744073709551616 := hR_lt hb
  have hq : (hR a : Int) - (hR b : Int) = 18446744073709551616 * q := hq
  exact hR_inj ha hb (by omega)
/-- the word ahead of the last turn, from what the hash is -/
theorem hY_inv {h k X : Nat} (hX : X < nM) (e : Cg (hY h k : Int) (c1 * (hR X : Nat) + (nC : Nat))) : hA (hS n5 h) k = X := by
  refine hR_cancel (hA_lt _ _) hX ?_
  have := (cg_hY h k).symm.trans e
  have h2 := Cg.sub this (Cg.refl (nC : Int))
  rwa [show ∀ a b : Int, a + b - b = a from fun a b => by omega, show ∀ a b : Int, a + b - b = a from fun a b => by omega] at h2
theorem cg_s : Cg ((nM - 1 : Nat) : Int) (c1 * (hR 9148689060682678900 : Nat) + (nC : Nat)) := Int.dvd_of_emod_eq_zero (by decide +kernel)
theorem cg_t : Cg ((1546275796 : Nat) : Int) (c1 * (hR 15881292906973731817 : Nat) + (nC : Nat)) := Int.dvd_of_emod_eq_zero (by decide +kernel)
theorem hP_eq {y y' : Nat} (hy : y < nM) (hy' : y' < nM) (h : hP y = hP y') : y = y' ∨ (y = nM - 1 ∧ y' = 1546275796) ∨ (y' = nM - 1 ∧ y = 1546275796) := by
  have a1 : y < 18446744073709551616 := hy
  have a2 : y' < 18446744073709551616 := hy'
  have e : ((nM : Nat) : Int) = 18446744073709551616 := rfl
  have e2 : (nM - 1 : Nat) = 18446744073709551615 := rfl
  unfold hP at h
  rw [e, e2] at h
  rw [e2]
  split at h <;> split at h <;> try omega
  all_goals (split at h <;> try omega)
  all_goals (split at h <;> omega)
/-- equal hashes: the difference of the last words takes three values -/
theorem outer {v b c e v' b' c' e' : Nat} (h : hP (hY (hY v b) (hY c e)) = hP (hY (hY v' b') (hY c' e'))) :
    ∃ z : Int, -1 ≤ z ∧ z ≤ 1 ∧ (jW v b c e : Int) - jW v' b' c' e' = z * (cXs - cXt) := by
  rcases hP_eq (hY_lt _ _) (hY_lt _ _) h with h | ⟨h, h'⟩ | ⟨h', h⟩
  · have := hY_inv (h := hY v b) (k := hY c e) (hA_lt (hS n5 (hY v' b')) (hY c' e')) (by rw [h]; exact cg_hY _ _)
    refine ⟨0, by omega, by omega, ?_⟩
    unfold jW
    rw [this, Int.sub_self, Int.zero_mul]
  · have h1 := hY_inv (h := hY v b) (k := hY c e) (X := 9148689060682678900) (by decide) (by rw [h]; exact cg_s)
    have h2 := hY_inv (h := hY v' b') (k := hY c' e') (X := 15881292906973731817) (by decide) (by rw [h']; exact cg_t)
    refine ⟨1, by omega, by omega, ?_⟩
    unfold jW
    rw [h1, h2]
    decide
  · have h1 := hY_inv (h := hY v b) (k := hY c e) (X := 15881292906973731817) (by decide) (by rw [h]; exact cg_t)
    have h2 := hY_inv (h := hY v' b') (k := hY c' e') (X := 9148689060682678900) (by decide) (by rw [h']; exact cg_s)
    refine ⟨-1, by omega, by omega, ?_⟩
    unfold jW
    rw [h1, h2]
    decide
end TH
end
section
set_option Elab.async false
set_option linter.all false
set_option maxRecDepth 100000
namespace TH
open PySem
theorem cKs : cM ∣ c1 * cKK - (cXs - cXt) := Int.dvd_of_emod_eq_zero (by decide +kernel)
theorem inBox_app : ∀ {v b v' b' : List Int}, InBox v b → InBox v' b' → InBox (v ++ v') (b ++ b')
  | [], [], v', b', _, h => h
  | [], _ :: _, v', b', h, _ => h.elim
  | _ :: _, [], v', b', h, _ => h.elim
  | x :: v, y :: b, v', b', h, h2 => ⟨h.1, h.2.1, inBox_app h.2.2 h2⟩
/-- the quotients and rests -/
def restOf (z : Int) (v b c e b' c' e' : Nat) : List Int :=
  [z, kx1 v b b', kx2 v b b', kx3 c c', kx4 c e c' e', rd (hA (hS n5 v) b) (hA (hS n5 v) b'), rd (hA n5 (hY v b)) (hA n5 (hY v b')), rd (hA n5 c) (hA n5 c'), rd (hA (hS n5 c) e) (hA (hS n5 c') e')]
theorem rest_box {z : Int} (h : -1 ≤ z) (h2 : z ≤ 1) (v b c e b' c' e' : Nat) : InBox (restOf z v b c e b' c' e') [1, 2147483647, 2147483647, 2147483647, 2147483647, 8589934591, 8589934591, 8589934591, 8589934591] := by
  have q : ∀ x h y g : Nat, -2147483647 ≤ qd (hA x h) (hA y g) ∧ qd (hA x h) (hA y g) ≤ 2147483647 := fun x h y g => q_box (hA_lt _ _) (hA_lt _ _)
  have r : ∀ x y : Nat, -8589934591 ≤ rd x y ∧ rd x y ≤ 8589934591 := r_box
  exact ⟨h, h2, (q _ _ _ _).1, (q _ _ _ _).2, (q _ _ _ _).1, (q _ _ _ _).2, (q _ _ _ _).1, (q _ _ _ _).2, (q _ _ _ _).1, (q _ _ _ _).2, (r _ _).1, (r _ _).2, (r _ _).1, (r _ _).2, (r _ _).1, (r _ _).2, (r _ _).1, (r _ _).2, trivial⟩
theorem id1 (C E x z k1 k2 k3 k4 h1 h2 h3 h4 : Int) : C * x - (E * k1 + h1) = C * x + (0 * z + (-E * k1 + (0 * k2 + (0 * k3 + (0 * k4 + (-1 * h1 + (0 * h2 + (0 * h3 + (0 * h4 + 0))))))))) := by grind
theorem id2 (A B F E x z k1 k2 k3 k4 h1 h2 h3 h4 : Int) : B * (A * (F * (B * x) + k1)) - (E * k2 + h2) = A * B * (F * B) * x + (0 * z + (A * B * k1 + (-E * k2 + (0 * k3 + (0 * k4 + (0 * h1 + (-1 * h2 + (0 * h3 + (0 * h4 + 0))))))))) := by grind
theorem id3 (C E x z k1 k2 k3 k4 h1 h2 h3 h4 : Int) : C * x - (E * k3 + h3) = C * x + (0 * z + (0 * k1 + (0 * k2 + (-E * k3 + (0 * k4 + (0 * h1 + (0 * h2 + (-1 * h3 + (0 * h4 + 0))))))))) := by grind
theorem id4 (A B F E x y z k1 k2 k3 k4 h1 h2 h3 h4 : Int) : A * (F * (B * x) + k3) + B * y - (E * k4 + h4) = A * (F * B) * x + B * y + (0 * z + (0 * k1 + (0 * k2 + (A * k3 + (-E * k4 + (0 * h1 + (0 * h2 + (0 * h3 + (-1 * h4 + 0))))))))) := by grind
theorem id5 (A B F K D x y w z k1 k2 k3 k4 h1 h2 h3 h4 : Int) : -(z * D - (A * (F * (B * (A * (F * (B * x) + k1))) + k2) + B * (A * (F * (A * (F * (B * y) + k3) + B * w) + k4)))) + -(z * (A * K - D)) =
  A * (F * (A * B * (F * B)) * x + (B * (F * (A * (F * B))) * y + B * (F * B) * w) + (-K * z + (F * (A * B) * k1 + (1 * k2 + (B * (F * A) * k3 + (B * k4 + (0 * h1 + (0 * h2 + (0 * h3 + (0 * h4 + 0)))))))))) := by grind
theorem dot9 (a1 a2 a3 a4 a5 a6 a7 a8 a9 x1 x2 x3 x4 x5 x6 x7 x8 x9 : Int) : dot [a1, a2, a3, a4, a5, a6, a7, a8, a9] [x1, x2, x3, x4, x5, x6, x7, x8, x9] = a1 * x1 + (a2 * x2 + (a3 * x3 + (a4 * x4 + (a5 * x5 + (a6 * x6 + (a7 * x7 + (a8 * x8 + (a9 * x9 + 0)))))))) := rfl
theorem rels_abs {be ga ep pv : List Int} {x y w z k1 k2 k3 k4 h1 h2 h3 h4 : Int} (lb : be.length = pv.length) (lg : ga.length = pv.length) (le : ep.length = pv.length)
    (hb : dot be pv = x) (hg : dot ga pv = y) (he : dot ep pv = w)
    (r1 : cM ∣ c2 * x - (e33 * k1 + h1)) (r2 : cM ∣ c2 * (c1 * (e31 * (c2 * x) + k1)) - (e33 * k2 + h2)) (r3 : cM ∣ c2 * y - (e33 * k3 + h3))
    (r4 : cM ∣ c1 * (e31 * (c2 * y) + k3) + c2 * w - (e33 * k4 + h4))
    (r5 : cM ∣ z * (cXs - cXt) - (c1 * (e31 * (c2 * (c1 * (e31 * (c2 * x) + k1))) + k2) + c2 * (c1 * (e31 * (c1 * (e31 * (c2 * y) + k3) + c2 * w) + k4)))) :
    ∀ r ∈ relsOf be ga ep, cM ∣ dot r (pv ++ [z, k1, k2, k3, k4, h1, h2, h3, h4]) := by
  intro r hr
  unfold relsOf at hr
  simp only [List.mem_cons, List.not_mem_nil, or_false] at hr
  rcases hr with rfl | rfl | rfl | rfl | rfl
  · rw [dot_app _ _ (by rw [mulL_len, lb]), dot_mulL, hb, dot9, ← id1]
    exact r1
  · rw [dot_app _ _ (by rw [mulL_len, lb]), dot_mulL, hb, dot9, ← id2]
    exact r2
  · rw [dot_app _ _ (by rw [mulL_len, lg]), dot_mulL, hg, dot9, ← id3]
    exact r3
  · rw [dot_app _ _ (by rw [addL_len (by rw [mulL_len, mulL_len, lg, le]), mulL_len, lg]), dot_addL, dot_mulL, dot_mulL, hg, he, dot9, ← id4]
    exact r4
  · rw [dot_app _ _ (by rw [addL_len (by rw [addL_len (by rw [mulL_len, mulL_len, lg, le]), mulL_len, mulL_len, lb, lg]), mulL_len, lb]), dot_addL, dot_addL, dot_mulL, dot_mulL, dot_mulL, hb, hg, he, dot9]
    refine can_c1 ?_
    rw [← id5 c1 c2 e31 cKK (cXs - cXt)]
    exact Int.dvd_add (Int.dvd_neg.mpr r5) (Int.dvd_neg.mpr (Int.dvd_mul_of_dvd_right cKs))
/-- the five relations -/
theorem rels_ok {z : Int} {v b c e b' c' e' : Nat} (h : (jW v b c e : Int) - jW v b' c' e' = z * (cXs - cXt)) {be ga ep pv : List Int} (lb : be.length = pv.length) (lg : ga.length = pv.length) (le : ep.length = pv.length)
    (hb : dot be pv = (b : Int) - b') (hg : dot ga pv = (c : Int) - c') (he : dot ep pv = (e : Int) - e') : ∀ r ∈ relsOf be ga ep, cM ∣ dot r (pv ++ restOf z v b c e b' c' e') := by
  refine rels_abs lb lg le hb hg he (rel_of (ch1 v b b')) (rel_of (ch2 v b b')) (rel_of (ch3 c c')) (rel_of (ch4 c e c' e')) ?_
  have h6 := ch6 v b c e b' c' e'
  rw [h] at h6
  exact h6
/-- a certificate shows the first parameter nought -/
theorem apart {v b c e b' c' e' : Nat} (h : hP (hY (hY v b) (hY c e)) = hP (hY (hY v b') (hY c' e'))) {be ga ep pv pb : List Int} {x : Int} {np : Nat} {t : Cert} (hc : certOK (relsOf be ga ep) np (boxOf pb) t.1 t.2 = true)
    (lb : be.length = (x :: pv).length) (lg : ga.length = (x :: pv).length) (le : ep.length = (x :: pv).length) (hb : dot be (x :: pv) = (b : Int) - b') (hg : dot ga (x :: pv) = (c : Int) - c') (he : dot ep (x :: pv) = (e : Int) - e') (hx : InBox (x :: pv) pb) : x = 0 := by
  obtain ⟨z, z1, z2, hz⟩ := outer h
  exact cert_zero hc (v := pv ++ restOf z v b c e b' c' e') (rels_ok hz lb lg le hb hg he) (inBox_app hx (rest_box z1 z2 v b c e b' c' e'))
end TH
end
section
set_option Elab.async false
set_option linter.all false
set_option maxRecDepth 100000
namespace TH
open PySem
theorem in_f0 {x y k e q1 q2 : Int} (r1 : 2870177450012600261 + 14029467366897019727 * x - 8589934592 * k - e = 18446744073709551616 * q1) (r2 : 11400714785074694791 * (2147483648 * e + k) + 14029467366897019727 * y - 9148689060682678900 = 18446744073709551616 * q2) : (-5686841676) * x + (-6900981546) * y + (1220396806) * k + (789501684) * e + 8357448750944609460 = 18446744073709551616 * (2620782184166926604 * q1 + 15000214288560546890 * q2 + ((-1993206930263498149) * x + (-11408247223299992686) * y + (-9270642239792219751) * k + (-19908552619032669017062058252) * e + (7031603296764072826))) := by
  have a : ∀ q1 q2 s : Int, 18446744073709551616 * (2620782184166926604 * q1 + 15000214288560546890 * q2 + s) = 2620782184166926604 * (18446744073709551616 * q1) + 15000214288560546890 * (18446744073709551616 * q2) + 18446744073709551616 * s := by intro q1 q2 s; omega
  rw [a, ← r1, ← r2]
  clear r1 r2 a
  omega
theorem in_b0 {x y k e g : Int} (x0 : 0 ≤ x) (x1 : x ≤ 1000000000) (y0 : 0 ≤ y) (y1 : y ≤ 1000000000) (k0 : 0 ≤ k) (k1 : k ≤ 2147483647) (e0 : 0 ≤ e) (e1 : e ≤ 8589934591) (f : (-5686841676) * x + (-6900981546) * y + (1220396806) * k + (789501684) * e + 8357448750944609460 = 18446744073709551616 * g) : g = 0 := by
  have l : -4230374471055390540 ≤ (-5686841676) * x + (-6900981546) * y + (1220396806) * k + (789501684) * e + 8357448750944609460 ∧ (-5686841676) * x + (-6900981546) * y + (1220396806) * k + (789501684) * e + 8357448750944609460 ≤ 17759998759724992186 := by clear f; omega
  rw [f] at l
  clear f
  omega
theorem in_f1 {x y k e q1 q2 : Int} (r1 : 2870177450012600261 + 14029467366897019727 * x - 8589934592 * k - e = 18446744073709551616 * q1) (r2 : 11400714785074694791 * (2147483648 * e + k) + 14029467366897019727 * y - 9148689060682678900 = 18446744073709551616 * q2) : (6921897359) * x + (6527168967) * y + (-2750616897) * k + (307760703) * e + 4697938569635514993 = 18446744073709551616 * (12539839265181790657 * q1 + 3029259613856715785 * q2 + ((-9537036186658804080) * x + (-2303869925697708058) * y + (-1872185390647345443) * k + (-4020487524979505738631606720) * e + (-448740957286125099))) := by
  have a : ∀ q1 q2 s : Int, 18446744073709551616 * (12539839265181790657 * q1 + 3029259613856715785 * q2 + s) = 12539839265181790657 * (18446744073709551616 * q1) + 3029259613856715785 * (18446744073709551616 * q2) + 18446744073709551616 * s := by intro q1 q2 s; omega
  rw [a, ← r1, ← r2]
  clear r1 r2 a
  omega
theorem in_b1 {x y k e g : Int} (x0 : 0 ≤ x) (x1 : x ≤ 1000000000) (y0 : 0 ≤ y) (y1 : y ≤ 1000000000) (k0 : 0 ≤ k) (k1 : k ≤ 2147483647) (e0 : 0 ≤ e) (e1 : e ≤ 8589934591) (f : (6921897359) * x + (6527168967) * y + (-2750616897) * k + (307760703) * e + 4697938569635514993 = 18446744073709551616 * g) : g = 0 ∨ g = 1 := by
  have l : -1208966235833868366 ≤ (6921897359) * x + (6527168967) * y + (-2750616897) * k + (307760703) * e + 4697938569635514993 ∧ (6921897359) * x + (6527168967) * y + (-2750616897) * k + (307760703) * e + 4697938569635514993 ≤ 20790649204085692466 := by clear f; omega
  rw [f] at l
  clear f
  omega
theorem in_f2 {x y k e q1 q2 : Int} (r1 : 2870177450012600261 + 14029467366897019727 * x - 8589934592 * k - e = 18446744073709551616 * q1) (r2 : 11400714785074694791 * (2147483648 * e + k) + 14029467366897019727 * y - 9148689060682678900 = 18446744073709551616 * q2) : (5647371940) * x + (593478036) * y + (2416746292) * k + (78901732) * e + 13465437150684967836 = 18446744073709551616 * (5189923143355731484 * q1 + 1760835116628684844 * q2 + ((-3947138697510575008) * x + (-1339183690548197147) * y + (-1088255944974973024) * k + (-2337011851862465481636843036) * e + (65774891816159432))) := by
  have a : ∀ q1 q2 s : Int, 18446744073709551616 * (5189923143355731484 * q1 + 1760835116628684844 * q2 + s) = 5189923143355731484 * (18446744073709551616 * q1) + 1760835116628684844 * (18446744073709551616 * q2) + 18446744073709551616 * s := by intro q1 q2 s; omega
  rw [a, ← r1, ← r2]
  clear r1 r2 a
  omega
theorem in_b2 {x y k e g : Int} (x0 : 0 ≤ x) (x1 : x ≤ 1000000000) (y0 : 0 ≤ y) (y1 : y ≤ 1000000000) (k0 : 0 ≤ k) (k1 : k ≤ 2147483647) (e0 : 0 ≤ e) (e1 : e ≤ 8589934591) (f : (5647371940) * x + (593478036) * y + (2416746292) * k + (78901732) * e + 13465437150684967836 = 18446744073709551616 * g) : g = 1 := by
  have l : 13465437150684967836 ≤ (5647371940) * x + (593478036) * y + (2416746292) * k + (78901732) * e + 13465437150684967836 ∧ (5647371940) * x + (593478036) * y + (2416746292) * k + (78901732) * e + 13465437150684967836 ≤ 25573970984699466372 := by clear f; omega
  rw [f] at l
  clear f
  omega
theorem in_f3 {x y k e q1 q2 : Int} (r1 : 2870177450012600261 + 14029467366897019727 * x - 8589934592 * k - e = 18446744073709551616 * q1) (r2 : 11400714785074694791 * (2147483648 * e + k) + 14029467366897019727 * y - 9148689060682678900 = 18446744073709551616 * q2) : (-4759283498) * x + (6872842267) * y + (588328115) * k + (17650614) * e + 2849069020356886510 = 18446744073709551616 * (1263425006603512906 * q1 + 4118742402695150453 * q2 + ((-960883927799904010) * x + (-3132464021855245479) * y + (-2545522787535762016) * k + (-5466468563107852151183027274) * e + (1846116553875045334))) := by
  have a : ∀ q1 q2 s : Int, 18446744073709551616 * (1263425006603512906 * q1 + 4118742402695150453 * q2 + s) = 1263425006603512906 * (18446744073709551616 * q1) + 4118742402695150453 * (18446744073709551616 * q2) + 18446744073709551616 * s := by intro q1 q2 s; omega
  rw [a, ← r1, ← r2]
  clear r1 r2 a
  omega
theorem in_b3 {x y k e g : Int} (x0 : 0 ≤ x) (x1 : x ≤ 1000000000) (y0 : 0 ≤ y) (y1 : y ≤ 1000000000) (k0 : 0 ≤ k) (k1 : k ≤ 2147483647) (e0 : 0 ≤ e) (e1 : e ≤ 8589934591) (f : (-4759283498) * x + (6872842267) * y + (588328115) * k + (17650614) * e + 2849069020356886510 = 18446744073709551616 * g) : g = 0 := by
  have l : -1910214477643113490 ≤ (-4759283498) * x + (6872842267) * y + (588328115) * k + (17650614) * e + 2849069020356886510 ∧ (-4759283498) * x + (6872842267) * y + (588328115) * k + (17650614) * e + 2849069020356886510 ≤ 11136953913140710789 := by clear f; omega
  rw [f] at l
  clear f
  omega
theorem in_x (x y k e : Int) : (-351919701) * ((-5686841676) * x + (-6900981546) * y + (1220396806) * k + (789501684) * e + 8357448750944609460) + (659352884) * ((6921897359) * x + (6527168967) * y + (-2750616897) * k + (307760703) * e + 4697938569635514993) + (1191662547) * ((5647371940) * x + (593478036) * y + (2416746292) * k + (78901732) * e + 13465437150684967836) + (-1082452398) * ((-4759283498) * x + (6872842267) * y + (588328115) * k + (17650614) * e + 2849069020356886510) = 18446744073709551616 * x + (13118724017489610158232305664) := by omega
theorem in_y (x y k e : Int) : (-316772852) * ((-5686841676) * x + (-6900981546) * y + (1220396806) * k + (789501684) * e + 8357448750944609460) + (604195060) * ((6921897359) * x + (6527168967) * y + (-2750616897) * k + (307760703) * e + 4697938569635514993) + (420186741) * ((5647371940) * x + (593478036) * y + (2416746292) * k + (78901732) * e + 13465437150684967836) + (1755844984) * ((-4759283498) * x + (6872842267) * y + (588328115) * k + (17650614) * e + 2849069020356886510) = 18446744073709551616 * y + (10851580100626758147795582976) := by omega
theorem inner_no {x y k e q1 q2 : Int} (x0 : 0 ≤ x) (x1 : x ≤ 1000000000) (y0 : 0 ≤ y) (y1 : y ≤ 1000000000) (k0 : 0 ≤ k) (k1 : k ≤ 2147483647) (e0 : 0 ≤ e) (e1 : e ≤ 8589934591)
    (r1 : 2870177450012600261 + 14029467366897019727 * x - 8589934592 * k - e = 18446744073709551616 * q1) (r2 : 11400714785074694791 * (2147483648 * e + k) + 14029467366897019727 * y - 9148689060682678900 = 18446744073709551616 * q2) : False := by
  have f0 := in_f0 r1 r2
  have f1 := in_f1 r1 r2
  have f2 := in_f2 r1 r2
  have f3 := in_f3 r1 r2
  have g0 := in_b0 x0 x1 y0 y1 k0 k1 e0 e1 f0
  have g1 := in_b1 x0 x1 y0 y1 k0 k1 e0 e1 f1
  have g2 := in_b2 x0 x1 y0 y1 k0 k1 e0 e1 f2
  have g3 := in_b3 x0 x1 y0 y1 k0 k1 e0 e1 f3
  have z := in_x x y k e
  rw [f0, f1, f2, f3] at z
  have z2 := in_y x y k e
  rw [f0, f1, f2, f3] at z2
  clear f0 f1 f2 f3 r1 r2
  generalize 2620782184166926604 * q1 + 15000214288560546890 * q2 + ((-1993206930263498149) * x + (-11408247223299992686) * y + (-9270642239792219751) * k + (-19908552619032669017062058252) * e + (7031603296764072826)) = g0_ at z z2 g0
  generalize 12539839265181790657 * q1 + 3029259613856715785 * q2 + ((-9537036186658804080) * x + (-2303869925697708058) * y + (-1872185390647345443) * k + (-4020487524979505738631606720) * e + (-448740957286125099)) = g1_ at z z2 g1
  generalize 5189923143355731484 * q1 + 1760835116628684844 * q2 + ((-3947138697510575008) * x + (-1339183690548197147) * y + (-1088255944974973024) * k + (-2337011851862465481636843036) * e + (65774891816159432)) = g2_ at z z2 g2
  generalize 1263425006603512906 * q1 + 4118742402695150453 * q2 + ((-960883927799904010) * x + (-3132464021855245479) * y + (-2545522787535762016) * k + (-5466468563107852151183027274) * e + (1846116553875045334)) = g3_ at z z2 g3
  omega
/-- no pair of numbers below 10^9 hashes to -1 -/
theorem hY_low {x y : Nat} (hx : x ≤ 1000000000) (hy : y ≤ 1000000000) : hY x y ≠ nM - 1 := by
  intro h
  have a := hY_inv (h := x) (k := y) (X := 9148689060682678900) (by decide) (by rw [h]; exact cg_s)
  unfold hA hS hR hA at a
  generalize e1 : (n5 + x * n2) % nM = w at a
  have e1 : (2870177450012600261 + x * 14029467366897019727) % 18446744073709551616 = w := e1
  have a : ((w * 2147483648 % 18446744073709551616 + w / 8589934592) * 11400714785074694791 % 18446744073709551616 + y * 14029467366897019727) % 18446744073709551616 = 9148689060682678900 := a
  rw [turn_low] at a
  have hw : w < 18446744073709551616 := by rw [← e1]; exact Nat.mod_lt _ (by decide)
  have k1 : w / 8589934592 ≤ 2147483647 := by clear a e1 h; omega
  have k2 : w % 8589934592 ≤ 8589934591 := by clear a e1 h; omega
  have k3 : w = 8589934592 * (w / 8589934592) + w % 8589934592 := by clear a e1 h; omega
  generalize w / 8589934592 = k at a k1 k3
  generalize w % 8589934592 = e at a k2 k3
  have r1 : (2870177450012600261 : Int) + 14029467366897019727 * (x : Int) - 8589934592 * (k : Int) - (e : Int) = 18446744073709551616 * (((2870177450012600261 + x * 14029467366897019727) / 18446744073709551616 : Nat) : Int) := by
    have d := Nat.div_add_mod (2870177450012600261 + x * 14029467366897019727) 18446744073709551616
    rw [e1] at d
    generalize (2870177450012600261 + x * 14029467366897019727) / 18446744073709551616 = q at d
    clear e1 a h
    omega
  clear e1 h hw
  have d1 := Nat.div_add_mod ((e * 2147483648 + k) * 11400714785074694791) 18446744073709551616
  generalize (e * 2147483648 + k) * 11400714785074694791 % 18446744073709551616 = m at a d1
  have d2 := Nat.div_add_mod (m + y * 14029467366897019727) 18446744073709551616
  rw [a] at d2
  generalize (m + y * 14029467366897019727) / 18446744073709551616 = u at d2
  generalize hp : (e * 2147483648 + k) * 11400714785074694791 / 18446744073709551616 = v at d1
  clear hp a
  have r2 : (11400714785074694791 : Int) * (2147483648 * (e : Int) + (k : Int)) + 14029467366897019727 * (y : Int) - 9148689060682678900 = 18446744073709551616 * ((u : Int) + (v : Int)) := by
    clear r1 k1 k2 k3 hx hy
    generalize hA : (e * 2147483648 + k) * 11400714785074694791 = A at d1
    generalize hB : y * 14029467366897019727 = B at d2
    have tA : (11400714785074694791 : Int) * (2147483648 * (e : Int) + (k : Int)) = (A : Int) := by clear d1 d2; omega
    have tB : 14029467366897019727 * (y : Int) = (B : Int) := by clear d1 d2; omega
    rw [tA, tB]
    clear tA tB hA hB
    omega
  clear d1 d2 k3
  have x1 : (x : Int) ≤ 1000000000 := by clear r1 r2; omega
  have y1 : (y : Int) ≤ 1000000000 := by clear r1 r2; omega
  have k1 : (k : Int) ≤ 2147483647 := by clear r1 r2; omega
  have k2 : (e : Int) ≤ 8589934591 := by clear r1 r2; omega
  exact inner_no (Int.natCast_nonneg _) x1 (Int.natCast_nonneg _) y1 (Int.natCast_nonneg _) k1 (Int.natCast_nonneg _) k2 r1 r2
end TH
end
section
set_option Elab.async false
set_option linter.all false
set_option maxRecDepth 100000
namespace TH
open PySem
/-- the hash of two pairs -/
def hH (v b c e : Nat) : Int := hP (hY (hY v b) (hY c e))
theorem typeI {v0 v1 v2 v3 : Nat} (h2 : v1 < v2) (h4 : v2 < 999999937) : hH v0 v1 v2 v3 ≠ hH v0 v2 v1 v3 := fun h => by
  have := apart (v := v0) (b := v1) (c := v2) (e := v3) (b' := v2) (c' := v1) (e' := v3) h (be := [1]) (ga := [-1]) (ep := [0]) (pv := []) (pb := [999999936]) (x := (v1 : Int) - v2) okI rfl rfl rfl
    (by show 1 * ((v1 : Int) - v2) + 0 = _; omega) (by show -1 * ((v1 : Int) - v2) + 0 = _; omega) (by show 0 * ((v1 : Int) - v2) + 0 = _; omega) ⟨by omega, by omega, trivial⟩
  omega
theorem typeII {v0 v1 v2 v3 : Nat} (h3 : v2 < v3) (h4 : v3 < 999999937) : hH v0 v3 v1 v2 ≠ hH v0 v2 v1 v3 := fun h => by
  have := apart (v := v0) (b := v3) (c := v1) (e := v2) (b' := v2) (c' := v1) (e' := v3) h (be := [1]) (ga := [0]) (ep := [-1]) (pv := []) (pb := [999999936]) (x := (v3 : Int) - v2) okII rfl rfl rfl
    (by show 1 * ((v3 : Int) - v2) + 0 = _; omega) (by show 0 * ((v3 : Int) - v2) + 0 = _; omega) (by show -1 * ((v3 : Int) - v2) + 0 = _; omega) ⟨by omega, by omega, trivial⟩
  omega
/-- what the gaps of the third kind are -/
def Good3 (s t : Int) : Prop := (s ≤ 10006 ∧ t ≤ 10006) ∨ (∃ c : Int, c % 2 = 1 ∧ -81 ≤ c ∧ c ≤ 81 ∧ (999999937 : Int) ∣ s - c * t) ∨ (∃ c : Int, c % 2 = 1 ∧ -81 ≤ c ∧ c ≤ 81 ∧ (999999937 : Int) ∣ t - c * s)
theorem mul_box {c t : Int} (h0 : 0 ≤ t) (h1 : t ≤ 999999936) : -(999999936 * (c.natAbs : Int)) ≤ c * t ∧ c * t ≤ 999999936 * (c.natAbs : Int) := by
  have n0 : (0 : Int) ≤ (c.natAbs : Int) := Int.natCast_nonneg _
  have m1 := Int.mul_le_mul_of_nonneg_left h1 n0
  have m0 := Int.mul_nonneg n0 h0
  rcases Int.natAbs_eq c with e | e
  · have ex : c * t = (c.natAbs : Int) * t := by rw [← e]
    omega
  · have ex : c * t = -((c.natAbs : Int) * t) := by rw [← Int.neg_mul, ← e]
    omega
theorem typeIII {v0 v1 v2 v3 : Nat} (h2 : v1 < v2) (h3 : v2 < v3) (h4 : v3 < 999999937) (g : Good3 ((v2 : Int) - v1) ((v3 : Int) - v2)) : hH v0 v3 v1 v2 ≠ hH v0 v1 v2 v3 := fun h => by
  rcases g with ⟨g1, g2⟩ | ⟨c, c0, c1', c2', w, hw⟩ | ⟨c, c0, c1', c2', w, hw⟩
  · have := apart (v := v0) (b := v3) (c := v1) (e := v2) (b' := v1) (c' := v2) (e' := v3) h (be := [1, 1]) (ga := [-1, 0]) (ep := [0, -1]) (pv := [(v3 : Int) - v2]) (pb := [10006, 10006]) (x := (v2 : Int) - v1) okS rfl rfl rfl
      (by show 1 * ((v2 : Int) - v1) + (1 * ((v3 : Int) - v2) + 0) = _; omega) (by show -1 * ((v2 : Int) - v1) + (0 * ((v3 : Int) - v2) + 0) = _; omega) (by show 0 * ((v2 : Int) - v1) + (-1 * ((v3 : Int) - v2) + 0) = _; omega) ⟨by omega, by omega, by omega, by omega, trivial⟩
    omega
  · obtain ⟨t, ht⟩ := allA c c0 c1' c2'
    obtain ⟨b1, b2⟩ := mul_box (c := c) (t := (v3 : Int) - v2) (by omega) (by omega)
    have e1 : (c + 1) * ((v3 : Int) - v2) = c * ((v3 : Int) - v2) + ((v3 : Int) - v2) := by rw [Int.add_mul, Int.one_mul]
    have e2 : -c * ((v3 : Int) - v2) = -(c * ((v3 : Int) - v2)) := Int.neg_mul _ _
    generalize hq : c * ((v3 : Int) - v2) = q at b1 b2 e1 e2 hw
    have := apart (v := v0) (b := v3) (c := v1) (e := v2) (b' := v1) (c' := v2) (e' := v3) h (be := [c + 1, -bigP]) (ga := [-c, bigP]) (ep := [-1, 0]) (pv := [-w]) (pb := [999999936, c.natAbs]) (x := (v3 : Int) - v2) ht rfl rfl rfl
      (by show (c + 1) * ((v3 : Int) - v2) + (-999999937 * -w + 0) = _; rw [e1]; omega) (by show -c * ((v3 : Int) - v2) + (999999937 * -w + 0) = _; rw [e2]; omega) (by show -1 * ((v3 : Int) - v2) + (0 * -w + 0) = _; omega) ⟨by omega, by omega, by omega, by omega, trivial⟩
    omega
  · obtain ⟨t, ht⟩ := allB c c0 c1' c2'
    obtain ⟨b1, b2⟩ := mul_box (c := c) (t := (v2 : Int) - v1) (by omega) (by omega)
    have e1 : (c + 1) * ((v2 : Int) - v1) = c * ((v2 : Int) - v1) + ((v2 : Int) - v1) := by rw [Int.add_mul, Int.one_mul]
    have e2 : -c * ((v2 : Int) - v1) = -(c * ((v2 : Int) - v1)) := Int.neg_mul _ _
    generalize hq : c * ((v2 : Int) - v1) = q at b1 b2 e1 e2 hw
    have := apart (v := v0) (b := v3) (c := v1) (e := v2) (b' := v1) (c' := v2) (e' := v3) h (be := [c + 1, -bigP]) (ga := [-1, 0]) (ep := [-c, bigP]) (pv := [-w]) (pb := [999999936, c.natAbs]) (x := (v2 : Int) - v1) ht rfl rfl rfl
      (by show (c + 1) * ((v2 : Int) - v1) + (-999999937 * -w + 0) = _; rw [e1]; omega) (by show -1 * ((v2 : Int) - v1) + (0 * -w + 0) = _; omega) (by show -c * ((v2 : Int) - v1) + (999999937 * -w + 0) = _; rw [e2]; omega) ⟨by omega, by omega, by omega, by omega, trivial⟩
    omega
end TH
end
section
set_option Elab.async false
set_option linter.all false
set_option maxRecDepth 100000
namespace TH
open PySem
/-- a joining of four ends by two strands -/
def J2 (x y u v : Int) : PL := openJoin [(x, y), (u, v), (y, x), (v, u)]
theorem s0 (x y u v : Int) : J2 x y u v = J2 x y u v := rfl
theorem s1 (x y u v : Int) : J2 x y u v = J2 x y v u := openJoin_perm (.cons _ ((List.Perm.swap _ _ _).trans ((List.Perm.cons _ (List.Perm.swap _ _ _)).trans (List.Perm.swap _ _ _))))
theorem s4 (x y u v : Int) : J2 x y u v = J2 u v x y := openJoin_perm ((List.Perm.swap _ _ _).trans (.cons _ (.cons _ (List.Perm.swap _ _ _))))
theorem s5 (x y u v : Int) : J2 x y u v = J2 u v y x := (s4 _ _ _ _).trans (s1 _ _ _ _)
theorem s6 (x y u v : Int) : J2 x y u v = J2 v u x y := (s1 _ _ _ _).trans (s4 _ _ _ _)
theorem s7 (x y u v : Int) : J2 x y u v = J2 v u y x := (s1 _ _ _ _).trans (s5 _ _ _ _)
theorem s2 (x y u v : Int) : J2 x y u v = J2 y x u v := (s4 _ _ _ _).trans (s6 _ _ _ _)
theorem s3 (x y u v : Int) : J2 x y u v = J2 y x v u := (s2 _ _ _ _).trans (s1 _ _ _ _)
theorem j2_eq {x y u v : Int} (h1 : x < y) (h2 : u < v) (h3 : x < u) : J2 x y u v = [(x, y), (u, v)] := by
  unfold J2 openJoin
  have e : ([(x, y), (u, v), (y, x), (v, u)].filter fun p : Int × Int => decide (p.1 < p.2)) = [(x, y), (u, v)] := by
    have a1 : ¬ y < x := by omega
    have a2 : ¬ v < u := by omega
    simp [List.filter_cons, h1, h2, a1, a2]
  rw [e]
  refine (sortP_unique (List.Perm.refl _) ?_).symm
  refine .cons (fun p hp => ?_) (.cons (fun p hp => nomatch hp) .nil)
  rw [List.mem_singleton.mp hp]
  exact .inl h3
theorem int_hash {w : World} {x : Int} (h0 : 0 ≤ x) (h1 : x < 999999937) : NestedKey.hash w (.num x) = x := by
  show hashInt x = x
  have e : rawHash x = x := by
    have e1 : ((x.natAbs % (2 ^ 61 - 1) : Nat) : Int) = x := by omega
    have e2 : (if x < 0 then -((x.natAbs % (2 ^ 61 - 1) : Nat) : Int) else ((x.natAbs % (2 ^ 61 - 1) : Nat) : Int)) = x := by rw [e1]; exact if_neg (by omega)
    show (if ((if x < 0 then -((x.natAbs % (2 ^ 61 - 1) : Nat) : Int) else ((x.natAbs % (2 ^ 61 - 1) : Nat) : Int)) == -1) = true then -2 else (if x < 0 then -((x.natAbs % (2 ^ 61 - 1) : Nat) : Int) else ((x.natAbs % (2 ^ 61 - 1) : Nat) : Int))) = x
    rw [e2, if_neg (by rw [beq_iff_eq]; omega)]
  unfold hashInt
  rw [e, if_neg (by rw [beq_iff_eq]; omega)]
theorem pair_hash {w : World} {x y : Int} (hx : 0 ≤ x) (hx1 : x < 999999937) (hy : 0 ≤ y) (hy1 : y < 999999937) : NestedKey.hash w (nkp (x, y)) = hP (hY x.toNat y.toNat) := by
  show reduceHash (Builtin.Tuple.tupleHashOf [NestedKey.hash w (.num x), NestedKey.hash w (.num y)]) = _
  rw [int_hash hx hx1, int_hash hy hy1, tuple_two_ok]
  have ex : x % 18446744073709551616 = x := by omega
  have ey : y % 18446744073709551616 = y := by omega
  rw [ex, ey]
  exact (hP_low (hY_lt _ _) (hY_low (by omega) (by omega))).2
theorem hk_two {w : World} {x y u v : Int} (hx : 0 ≤ x) (hx1 : x < 999999937) (hy : 0 ≤ y) (hy1 : y < 999999937) (hu : 0 ≤ u) (hu1 : u < 999999937) (hv : 0 ≤ v) (hv1 : v < 999999937) (h1 : x < y) (h2 : u < v) (h3 : x < u) :
    hk w (J2 x y u v) = reduceHash (hH x.toNat y.toNat u.toNat v.toNat) := by
  rw [j2_eq h1 h2 h3]
  show reduceHash (Builtin.Tuple.tupleHashOf [NestedKey.hash w (nkp (x, y)), NestedKey.hash w (nkp (u, v))]) = _
  rw [pair_hash hx hx1 hy hy1, pair_hash hu hu1 hv hv1, tuple_two_ok, (hP_low (hY_lt _ _) (hY_low (by omega) (by omega))).1, (hP_low (hY_lt _ _) (hY_low (by omega) (by omega))).1]
  rfl
theorem hP_red {y : Nat} (h : y < nM) : reduceHash (hP y) = hP y := by
  by_cases n : y = nM - 1
  · have : hP y = 1546275796 := if_pos n
    rw [this]
    decide
  · exact (hP_low h n).2
theorem hk_H {w : World} {x y u v : Int} (hx : 0 ≤ x) (hx1 : x < 999999937) (hy : 0 ≤ y) (hy1 : y < 999999937) (hu : 0 ≤ u) (hu1 : u < 999999937) (hv : 0 ≤ v) (hv1 : v < 999999937) (h1 : x < y) (h2 : u < v) (h3 : x < u) :
    hk w (J2 x y u v) = hH x.toNat y.toNat u.toNat v.toNat := (hk_two hx hx1 hy hy1 hu hu1 hv hv1 h1 h2 h3).trans (hP_red (hY_lt _ _))
section
variable {w : World} {x y z t : Int}
theorem difI (h0 : 0 ≤ x) (h1 : x < y) (h2 : y < z) (h3 : z < t) (h4 : t < 999999937) : hk w (J2 x y z t) ≠ hk w (J2 x z y t) := by
  rw [hk_H (w := w) (x := x) (y := y) (u := z) (v := t) (by omega) (by omega) (by omega) (by omega) (by omega) (by omega) (by omega) (by omega) (by omega) (by omega) (by omega), hk_H (w := w) (x := x) (y := z) (u := y) (v := t) (by omega) (by omega) (by omega) (by omega) (by omega) (by omega) (by omega) (by omega) (by omega) (by omega) (by omega)]
  exact typeI (by omega) (by omega)
theorem difII (h0 : 0 ≤ x) (h1 : x < y) (h2 : y < z) (h3 : z < t) (h4 : t < 999999937) : hk w (J2 x t y z) ≠ hk w (J2 x z y t) := by
  rw [hk_H (w := w) (x := x) (y := t) (u := y) (v := z) (by omega) (by omega) (by omega) (by omega) (by omega) (by omega) (by omega) (by omega) (by omega) (by omega) (by omega), hk_H (w := w) (x := x) (y := z) (u := y) (v := t) (by omega) (by omega) (by omega) (by omega) (by omega) (by omega) (by omega) (by omega) (by omega) (by omega) (by omega)]
  exact typeII (by omega) (by omega)
theorem difIII (g : Good3 (z - y) (t - z)) (h0 : 0 ≤ x) (h1 : x < y) (h2 : y < z) (h3 : z < t) (h4 : t < 999999937) : hk w (J2 x t y z) ≠ hk w (J2 x y z t) := by
  rw [hk_H (w := w) (x := x) (y := t) (u := y) (v := z) (by omega) (by omega) (by omega) (by omega) (by omega) (by omega) (by omega) (by omega) (by omega) (by omega) (by omega), hk_H (w := w) (x := x) (y := y) (u := z) (v := t) (by omega) (by omega) (by omega) (by omega) (by omega) (by omega) (by omega) (by omega) (by omega) (by omega) (by omega)]
  refine typeIII (by omega) (by omega) (by omega) ?_
  rw [show ((z.toNat : Nat) : Int) = z by omega, show ((y.toNat : Nat) : Int) = y by omega, show ((t.toNat : Nat) : Int) = t by omega]
  exact g
end
/-- the third kind is good in this order -/
def Ok3 (x y z t : Int) : Prop := x < y → y < z → z < t → Good3 (z - y) (t - z)
theorem KL_J (a b c d : Int) : KL a b c d = J2 a c b d := rfl
theorem KU_J (a b c d : Int) : KU a b c d = J2 a b c d := rfl
theorem dif_all {w : World} {a b c d : Int} (a0 : 0 ≤ a) (a1 : a < 999999937) (b0 : 0 ≤ b) (b1 : b < 999999937) (c0 : 0 ≤ c) (c1 : c < 999999937) (d0 : 0 ≤ d) (d1 : d < 999999937) (hn : [a, b, c, d].Nodup) (g0 : Ok3 a b d c) (g1 : Ok3 a c d b) (g2 : Ok3 b a c d) (g3 : Ok3 b d c a) (g4 : Ok3 c a b d) (g5 : Ok3 c d b a) (g6 : Ok3 d b a c) (g7 : Ok3 d c a b) : hk w (KL a b c d) ≠ hk w (KU a b c d) := by
  simp only [List.nodup_cons, List.mem_cons, List.not_mem_nil, or_false, not_or, not_false_eq_true, List.nodup_nil, and_true] at hn
  obtain ⟨⟨n1, n2, n3⟩, ⟨n4, n5⟩, n6⟩ := hn
  rw [KL_J, KU_J]
  rcases Int.lt_or_gt_of_ne (Ne.symm n1) with h1 | h1
  · skip
    rcases Int.lt_or_gt_of_ne (Ne.symm n4) with h2 | h2
    · skip
      rcases Int.lt_or_gt_of_ne (Ne.symm n6) with h3 | h3
      · skip
        rw [s7 a c b d, s7 a b c d]
        exact (difI d0 h3 h2 h1 a1).symm
      · skip
        rcases Int.lt_or_gt_of_ne (Ne.symm n5) with h4 | h4
        · skip
          rw [s3 a c b d, s5 a b c d]
          exact difIII (g5 h3 h4 h1) c0 h3 h4 h1 a1
        · skip
          rcases Int.lt_or_gt_of_ne (Ne.symm n3) with h5 | h5
          · skip
            rw [s2 a c b d, s5 a b c d]
            exact difII c0 h2 h4 h5 a1
          · skip
            rw [s2 a c b d, s5 a b c d]
            exact (difII c0 h2 h1 h5 d1).symm
    · skip
      rcases Int.lt_or_gt_of_ne (Ne.symm n2) with h6 | h6
      · skip
        rcases Int.lt_or_gt_of_ne (Ne.symm n5) with h7 | h7
        · skip
          rw [s7 a c b d, s7 a b c d]
          exact difI d0 h7 h2 h6 a1
        · skip
          rcases Int.lt_or_gt_of_ne (Ne.symm n6) with h8 | h8
          · skip
            rw [s5 a c b d, s3 a b c d]
            exact (difIII (g3 h7 h8 h6) b0 h7 h8 h6 a1).symm
          · skip
            rcases Int.lt_or_gt_of_ne (Ne.symm n3) with h9 | h9
            · skip
              rw [s5 a c b d, s2 a b c d]
              exact (difII b0 h2 h8 h9 a1).symm
            · skip
              rw [s5 a c b d, s2 a b c d]
              exact difII b0 h2 h6 h9 d1
      · skip
        rcases Int.lt_or_gt_of_ne (Ne.symm n5) with h10 | h10
        · skip
          rw [s6 a c b d, s7 a b c d]
          exact (difIII (g6 h10 h1 h6) d0 h10 h1 h6 c1).symm
        · skip
          rcases Int.lt_or_gt_of_ne (Ne.symm n3) with h11 | h11
          · skip
            rw [s4 a c b d, s3 a b c d]
            exact difI b0 h10 h11 h6 c1
          · skip
            rcases Int.lt_or_gt_of_ne (Ne.symm n6) with h12 | h12
            · skip
              rw [s4 a c b d, s3 a b c d]
              exact (difI b0 h1 h11 h12 c1).symm
            · skip
              rw [s4 a c b d, s2 a b c d]
              exact difIII (g2 h1 h6 h12) b0 h1 h6 h12 d1
  · skip
    rcases Int.lt_or_gt_of_ne (Ne.symm n2) with h13 | h13
    · skip
      rcases Int.lt_or_gt_of_ne (Ne.symm n6) with h14 | h14
      · skip
        rw [s7 a c b d, s6 a b c d]
        exact difIII (g7 h14 h13 h1) d0 h14 h13 h1 b1
      · skip
        rcases Int.lt_or_gt_of_ne (Ne.symm n3) with h15 | h15
        · skip
          rw [s3 a c b d, s4 a b c d]
          exact (difI c0 h14 h15 h1 b1).symm
        · skip
          rcases Int.lt_or_gt_of_ne (Ne.symm n5) with h16 | h16
          · skip
            rw [s3 a c b d, s4 a b c d]
            exact difI c0 h13 h15 h16 b1
          · skip
            rw [s2 a c b d, s4 a b c d]
            exact (difIII (g4 h13 h1 h16) c0 h13 h1 h16 d1).symm
    · skip
      rcases Int.lt_or_gt_of_ne (Ne.symm n4) with h17 | h17
      · skip
        rcases Int.lt_or_gt_of_ne (Ne.symm n3) with h18 | h18
        · skip
          rw [s6 a c b d, s6 a b c d]
          exact difII d0 h18 h13 h17 b1
        · skip
          rcases Int.lt_or_gt_of_ne (Ne.symm n6) with h19 | h19
          · skip
            rw [s1 a c b d, s1 a b c d]
            exact (difII a0 h18 h19 h17 b1).symm
          · skip
            rcases Int.lt_or_gt_of_ne (Ne.symm n5) with h20 | h20
            · skip
              rw [s1 a c b d, s0 a b c d]
              exact (difIII (g1 h13 h19 h20) a0 h13 h19 h20 b1).symm
            · skip
              rw [s0 a c b d, s0 a b c d]
              exact difI a0 h13 h17 h20 d1
      · skip
        rcases Int.lt_or_gt_of_ne (Ne.symm n3) with h21 | h21
        · skip
          rw [s6 a c b d, s6 a b c d]
          exact (difII d0 h21 h1 h17 c1).symm
        · skip
          rcases Int.lt_or_gt_of_ne (Ne.symm n5) with h22 | h22
          · skip
            rw [s1 a c b d, s1 a b c d]
            exact difII a0 h21 h22 h17 c1
          · skip
            rcases Int.lt_or_gt_of_ne (Ne.symm n6) with h23 | h23
            · skip
              rw [s0 a c b d, s1 a b c d]
              exact difIII (g0 h1 h22 h23) a0 h1 h22 h23 c1
            · skip
              rw [s0 a c b d, s0 a b c d]
              exact (difI a0 h1 h17 h23 d1).symm
end TH
end
section
set_option Elab.async false
set_option linter.all false
set_option maxRecDepth 100000
namespace TH
open PySem
theorem good_idx {s t l k k' : Int} (h : (999999937 : Int) ∣ s - k * l) (h' : (999999937 : Int) ∣ t - k' * l) (o : k % 2 = 1) (o' : k' % 2 = 1) (b0 : -81 ≤ k) (b1 : k ≤ 81) (b0' : -81 ≤ k') (b1' : k' ≤ 81) (c : (k = 1 ∨ k = -1) ∨ (k' = 1 ∨ k' = -1)) : Good3 s t := by
  rcases c with c | c
  · refine .inr (.inr ⟨k * k', ?_, ?_, ?_, ?_⟩)
    · rcases c with rfl | rfl <;> omega
    · rcases c with rfl | rfl <;> omega
    · rcases c with rfl | rfl <;> omega
    · have := Int.dvd_sub h' (Int.dvd_mul_of_dvd_right (b := k * k') h)
      refine (show ∀ x y : Int, x = y → (999999937 : Int) ∣ x → (999999937 : Int) ∣ y from fun x y h => h ▸ id) _ _ ?_ this
      rcases c with rfl | rfl <;> grind
  · refine .inr (.inl ⟨k' * k, ?_, ?_, ?_, ?_⟩)
    · rcases c with rfl | rfl <;> omega
    · rcases c with rfl | rfl <;> omega
    · rcases c with rfl | rfl <;> omega
    · have := Int.dvd_sub h (Int.dvd_mul_of_dvd_right (b := k' * k) h')
      refine (show ∀ x y : Int, x = y → (999999937 : Int) ∣ x → (999999937 : Int) ∣ y from fun x y h => h ▸ id) _ _ ?_ this
      rcases c with rfl | rfl <;> grind
theorem gapdv {a b o l ka kb : Int} (h : (999999937 : Int) ∣ a - (o + ka * l)) (h' : (999999937 : Int) ∣ b - (o + kb * l)) : (999999937 : Int) ∣ (a - b) - (ka - kb) * l := by
  have := Int.dvd_sub h h'
  refine (show ∀ x y : Int, x = y → (999999937 : Int) ∣ x → (999999937 : Int) ∣ y from fun x y h => h ▸ id) _ _ ?_ this
  rw [Int.sub_mul]
  omega
theorem ok3_idx {o l x y z t ky kz kt : Int} (hy : (999999937 : Int) ∣ y - (o + ky * l)) (hz : (999999937 : Int) ∣ z - (o + kz * l)) (ht : (999999937 : Int) ∣ t - (o + kt * l))
    (o1 : (kz - ky) % 2 = 1) (o2 : (kt - kz) % 2 = 1) (b0 : -81 ≤ kz - ky) (b1 : kz - ky ≤ 81) (b0' : -81 ≤ kt - kz) (b1' : kt - kz ≤ 81) (c : (kz - ky = 1 ∨ kz - ky = -1) ∨ (kt - kz = 1 ∨ kt - kz = -1)) : Ok3 x y z t :=
  fun _ _ _ => good_idx (gapdv hz hy) (gapdv ht hz) o1 o2 b0 b1 b0' b1' c
theorem dif_idx {w : World} {o l a b c d m : Int} (a0 : 0 ≤ a) (a1 : a < 999999937) (b0 : 0 ≤ b) (b1 : b < 999999937) (c0 : 0 ≤ c) (c1 : c < 999999937) (d0 : 0 ≤ d) (d1 : d < 999999937) (hn : [a, b, c, d].Nodup)
    {ka kb kc kd : Int} (ha : (999999937 : Int) ∣ a - (o + ka * l)) (hb : (999999937 : Int) ∣ b - (o + kb * l)) (hc : (999999937 : Int) ∣ c - (o + kc * l)) (hd : (999999937 : Int) ∣ d - (o + kd * l))
    (m0 : 2 ≤ m) (m1 : m ≤ 80) (m2 : m % 2 = 0) (h : (ka = 0 ∧ kb = 1 ∧ kc = m + 1 ∧ kd = m) ∨ (ka = m + 1 ∧ kb = m ∧ kc = 0 ∧ kd = 1)) : hk w (KL a b c d) ≠ hk w (KU a b c d) := by
  refine dif_all a0 a1 b0 b1 c0 c1 d0 d1 hn (ok3_idx hb hd hc ?_ ?_ ?_ ?_ ?_ ?_ ?_) (ok3_idx hc hd hb ?_ ?_ ?_ ?_ ?_ ?_ ?_) (ok3_idx ha hc hd ?_ ?_ ?_ ?_ ?_ ?_ ?_) (ok3_idx hd hc ha ?_ ?_ ?_ ?_ ?_ ?_ ?_) (ok3_idx ha hb hd ?_ ?_ ?_ ?_ ?_ ?_ ?_) (ok3_idx hd hb ha ?_ ?_ ?_ ?_ ?_ ?_ ?_) (ok3_idx hb ha hc ?_ ?_ ?_ ?_ ?_ ?_ ?_) (ok3_idx hc ha hb ?_ ?_ ?_ ?_ ?_ ?_ ?_) <;> clear ha hb hc hd hn a0 a1 b0 b1 c0 c1 d0 d1 <;> omega
/-- junctions that both lie behind the first: the third kind does not come -/
theorem dif_far {w : World} {l a b c d : Int} (a0 : 0 ≤ a) (a1 : a < 999999937) (b0 : 0 ≤ b) (b1 : b < 999999937) (c0 : 0 ≤ c) (c1 : c < 999999937) (d0 : 0 ≤ d) (d1 : d < 999999937) (hn : [a, b, c, d].Nodup)
    (l0 : 1 ≤ l) (l1 : l < 999999937) (h : a = b + l ∨ a = b + l - 999999937) (h' : c = d + l ∨ c = d + l - 999999937) : hk w (KL a b c d) ≠ hk w (KU a b c d) := by
  refine dif_all a0 a1 b0 b1 c0 c1 d0 d1 hn ?_ ?_ ?_ ?_ ?_ ?_ ?_ ?_ <;> (intro p1 p2 p3; exfalso; clear hn; omega)
theorem dif_small {w : World} {a b c d : Int} (a0 : 0 ≤ a) (a1 : a < 10007) (b0 : 0 ≤ b) (b1 : b < 10007) (c0 : 0 ≤ c) (c1 : c < 10007) (d0 : 0 ≤ d) (d1 : d < 10007) (hn : [a, b, c, d].Nodup) : hk w (KL a b c d) ≠ hk w (KU a b c d) := by
  refine dif_all a0 (by omega) b0 (by omega) c0 (by omega) d0 (by omega) hn ?_ ?_ ?_ ?_ ?_ ?_ ?_ ?_ <;> (intro p1 p2 p3; exact .inl ⟨by omega, by omega⟩)
theorem arc_dvd (o l k : Int) : (999999937 : Int) ∣ (o + k * l) % 999999937 - (o + k * l) := ⟨-((o + k * l) / 999999937), by
  generalize o + k * l = x
  omega⟩
theorem arc_step {o l : Int} (l0 : 1 ≤ l) (l1 : l < 999999937) (k : Nat) : (o + ((2 * k + 1 : Nat) : Int) * l) % 999999937 = (o + ((2 * k : Nat) : Int) * l) % 999999937 + l ∨ (o + ((2 * k + 1 : Nat) : Int) * l) % 999999937 = (o + ((2 * k : Nat) : Int) * l) % 999999937 + l - 999999937 := by
  have e : o + ((2 * k + 1 : Nat) : Int) * l = o + ((2 * k : Nat) : Int) * l + l := by
    rw [Int.natCast_add, Int.add_mul, Int.natCast_one, Int.one_mul]
    omega
  rw [e]
  generalize o + ((2 * k : Nat) : Int) * l = x
  omega
theorem hashAll (w : World) : HashAll w := by
  intro p o l n hp o0 o1 l0 l1 hn i j hi hj hij
  have hD := dsJ (o := o) hp l0 l1 hn
  have d4 : Ds [upA (arcsOf p o l (2 * n + 2)) i, loA (arcsOf p o l (2 * n + 2)) i, upA (arcsOf p o l (2 * n + 2)) j, loA (arcsOf p o l (2 * n + 2)) j] := hD [i, j] (by simp [hij]) (by simp; omega)
  have hN := d4.1
  have bi1 : upI i < 2 * n + 2 := by unfold upI; split <;> omega
  have bi2 : loI i < 2 * n + 2 := by unfold loI; split <;> omega
  have bj1 : upI j < 2 * n + 2 := by unfold upI; split <;> omega
  have bj2 : loI j < 2 * n + 2 := by unfold loI; split <;> omega
  rw [upA_I, loA_I, upA_I, loA_I, arcs_get bi1, arcs_get bi2, arcs_get bj1, arcs_get bj2] at hN ⊢
  have r : ∀ x : Int, 0 ≤ x % p ∧ x % p < p := fun x => ⟨Int.emod_nonneg _ (by omega), Int.emod_lt_of_pos _ (by omega)⟩
  by_cases hb : p = 999999937
  · subst hb
    by_cases i0 : i = 0
    · subst i0
      have e1 : upI j = 2 * j + 1 := if_neg (fun z => hij z.symm)
      have e2 : loI j = 2 * j := if_neg (fun z => hij z.symm)
      rw [e1, e2] at hN ⊢
      exact dif_idx (o := o) (l := l) (m := 2 * j) (ka := 0) (kb := 1) (kc := 2 * j + 1) (kd := 2 * j) (r _).1 (r _).2 (r _).1 (r _).2 (r _).1 (r _).2 (r _).1 (r _).2 hN (arc_dvd o l 0) (arc_dvd o l 1) (arc_dvd o l ((2 * j + 1 : Nat) : Int)) (arc_dvd o l ((2 * j : Nat) : Int)) (by omega) (by omega) (by omega) (.inl ⟨rfl, rfl, rfl, rfl⟩)
    · by_cases j0 : j = 0
      · subst j0
        have e1 : upI i = 2 * i + 1 := if_neg i0
        have e2 : loI i = 2 * i := if_neg i0
        rw [e1, e2] at hN ⊢
        exact dif_idx (o := o) (l := l) (m := 2 * i) (ka := 2 * i + 1) (kb := 2 * i) (kc := 0) (kd := 1) (r _).1 (r _).2 (r _).1 (r _).2 (r _).1 (r _).2 (r _).1 (r _).2 hN (arc_dvd o l ((2 * i + 1 : Nat) : Int)) (arc_dvd o l ((2 * i : Nat) : Int)) (arc_dvd o l 0) (arc_dvd o l 1) (by omega) (by omega) (by omega) (.inr ⟨rfl, rfl, rfl, rfl⟩)
      · have e1 : upI i = 2 * i + 1 := if_neg i0
        have e2 : loI i = 2 * i := if_neg i0
        have e3 : upI j = 2 * j + 1 := if_neg j0
        have e4 : loI j = 2 * j := if_neg j0
        rw [e1, e2, e3, e4] at hN ⊢
        exact dif_far (l := l) (r _).1 (r _).2 (r _).1 (r _).2 (r _).1 (r _).2 (r _).1 (r _).2 hN l0 l1 (arc_step l0 l1 i) (arc_step l0 l1 j)
  · have hp2 : p ≤ 10007 := by omega
    have r2 : ∀ x : Int, x % p < 10007 := fun x => by have := (r x).2; omega
    exact dif_small (r _).1 (r2 _) (r _).1 (r2 _) (r _).1 (r2 _) (r _).1 (r2 _) hN
theorem lawMath_ok : ∀ w, LawMath w := fun w => lawMath_of (hashAll w)
end TH
end
set_option Elab.async false
set_option linter.all false
set_option maxRecDepth 100000
open PySem PySem.W PyProof.Rows
set_option maxHeartbeats 0 in
theorem PySem.Challenge.cw_tanglehouse_k46_whole_long_rows_holds : PySem.Challenge.rw_tanglehouse_k46_whole_long_rows.Holds := by
  w_on; o_law; k_head; (case hw => w_witness2)
  k_fill
  refine L2.walk_of (l := PySem.Challenge.rw_tanglehouse_k46_whole_long_rows) (n := 63) (k := 9) (x := "_law_script") (CX := fun _ => L2.CX0) (sp := fun w => TH.spLaw _) rfl (by decide) rfl ⟨rfl, by decide, by decide⟩ (fun w h Y => PySem.W.kIn_of Y) ?F (fun _ _ a ns hl _ hS => ⟨a, ns, rfl, hS, hl, fun _ => rfl⟩) (fun _ _ _ _ _ h => h)
  case F =>
    intro w mg fa h KX G hmg
    refine' TH.all_mk hmg (TH.top_mk KX G ?a0 ?l0 ?c0 ?k0 ?a1 ?l1 ?c1 ?k1 ?a2 ?l2 ?c2 ?k2 ?a3 ?l3 ?c3 ?k3 ?a4 ?l4 ?c4 ?k4 ?a5 ?l5 ?c5 ?k5 ?a6 ?l6 ?c6 ?k6 ?a7 ?l7 ?c7 ?k7 ?a8 ?l8 ?c8 ?k8 ?a9 ?l9 ?c9 ?k9 ?a10 ?l10 ?c10 ?k10 ?a11 ?l11 ?c11 ?k11 ?a12 ?l12 ?c12 ?k12 ?a13 ?l13 ?c13 ?k13 ?a14 ?l14 ?c14 ?k14 ?a15 ?l15 ?c15 ?k15 ?a16 ?l16 ?c16 ?k16 ?a17 ?l17 ?c17 ?k17 ?a18 ?l18 ?c18 ?k18 ?a19 ?l19 ?c19 ?k19 ?a20 ?l20 ?c20 ?k20 ?a21 ?l21 ?c21 ?k21 ?a22 ?l22 ?c22 ?k22 ?a23 ?l23 ?c23 ?k23 ?a24 ?l24 ?c24 ?k24 ?a25 ?l25 ?c25 ?k25 ?a26 ?l26 ?c26 ?k26 ?a27 ?l27 ?c27 ?k27 ?a28 ?l28 ?c28 ?k28 ?aL ?lL ?cL ?kL ?z_len ?z_min ?z_list ?z_range ?z_dict ?z_sorted ?z_tuple ?z_enumerate ?z_int ?z_isinstance ?eO ?eO0 ?eO1 ?eR ?eR0 ?eR1 ?eR2 ?eJ ?eJ0 ?eJ1 ?eJ2 ?eJ3 ?eJ4 ?eJ5 ?eJ6 ?eM) (TH.lawMath_ok w)
    (case a0 => k_is); (case l0 => k_is); (case c0 => k_is); (case k0 => k_is); (case a1 => k_is); (case l1 => k_is); (case c1 => k_is); (case k1 => k_is); (case a2 => k_is); (case l2 => k_is); (case c2 => k_is); (case k2 => k_is); (case a3 => k_is); (case l3 => k_is); (case c3 => k_is); (case k3 => k_is); (case a4 => k_is); (case l4 => k_is); (case c4 => k_is); (case k4 => k_is); (case a5 => k_is); (case l5 => k_is); (case c5 => k_is); (case k5 => k_is); (case a6 => k_is); (case l6 => k_is); (case c6 => k_is); (case k6 => k_is); (case a7 => k_is); (case l7 => k_is); (case c7 => k_is); (case k7 => k_is); (case a8 => k_is); (case l8 => k_is); (case c8 => k_is); (case k8 => k_is); (case a9 => k_is); (case l9 => k_is); (case c9 => k_is); (case k9 => k_is); (case a10 => k_is); (case l10 => k_is); (case c10 => k_is); (case k10 => k_is); (case a11 => k_is); (case l11 => k_is); (case c11 => k_is); (case k11 => k_is); (case a12 => k_is); (case l12 => k_is); (case c12 => k_is); (case k12 => k_is); (case a13 => k_is); (case l13 => k_is); (case c13 => k_is); (case k13 => k_is); (case a14 => k_is); (case l14 => k_is); (case c14 => k_is); (case k14 => k_is); (case a15 => k_is); (case l15 => k_is); (case c15 => k_is); (case k15 => k_is); (case a16 => k_is); (case l16 => k_is); (case c16 => k_is); (case k16 => k_is); (case a17 => k_is); (case l17 => k_is); (case c17 => k_is); (case k17 => k_is); (case a18 => k_is); (case l18 => k_is); (case c18 => k_is); (case k18 => k_is); (case a19 => k_is); (case l19 => k_is); (case c19 => k_is); (case k19 => k_is); (case a20 => k_is); (case l20 => k_is); (case c20 => k_is); (case k20 => k_is); (case a21 => k_is); (case l21 => k_is); (case c21 => k_is); (case k21 => k_is); (case a22 => k_is); (case l22 => k_is); (case c22 => k_is); (case k22 => k_is); (case a23 => k_is); (case l23 => k_is); (case c23 => k_is); (case k23 => k_is); (case a24 => k_is); (case l24 => k_is); (case c24 => k_is); (case k24 => k_is); (case a25 => k_is); (case l25 => k_is); (case c25 => k_is); (case k25 => k_is); (case a26 => k_is); (case l26 => k_is); (case c26 => k_is); (case k26 => k_is); (case a27 => k_is); (case l27 => k_is); (case c27 => k_is); (case k27 => k_is); (case a28 => k_is); (case l28 => k_is); (case c28 => k_is); (case k28 => k_is); (case aL => k_is); (case lL => k_is); (case cL => k_is); (case kL => k_is); (case z_len => k_is); (case z_min => k_is); (case z_list => k_is); (case z_range => k_is); (case z_dict => k_is); (case z_sorted => k_is); (case z_tuple => k_is); (case z_enumerate => k_is); (case z_int => k_is); (case z_isinstance => k_is); (case eO => k_is); (case eO0 => k_is); (case eO1 => k_is); (case eR => k_is); (case eR0 => k_is); (case eR1 => k_is); (case eR2 => k_is); (case eJ => k_is); (case eJ0 => k_is); (case eJ1 => k_is); (case eJ2 => k_is); (case eJ3 => k_is); (case eJ4 => k_is); (case eJ5 => k_is); (case eJ6 => k_is); (case eM => k_is)
