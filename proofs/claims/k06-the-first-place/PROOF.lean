import PyProof.Rows.All
import Wide.All
import OpenK.AllK
import Wide.FinOn
import PyProof.EqAt
import PyProof.EqKinds
import PyProof.TupleCall
import HandS.ForMost
import HandS.Exc
import HandS.TryOnly
import HandS.TryMany
import HandS.ExcOwn
import HandS.WordsExc
import HandS.IsInst
import HandS.SortInts
import HandS.Deep
import HandS.TupAny
import HandS.RaiseMore
import HandS.ExcIs
import HandS.Defaults
import HandS.More
import HandS.HeadEnd
import HandS.HeadHook2
import KE.KStateDown
import HandS.Head0
import HandS.Head1
import HandS.Head2
import HandS.HeadHook1
import PySem.Challenge.RW_packshelf_k06_the_first_place
set_option Elab.async false
set_option linter.all false
set_option maxRecDepth 100000
set_option maxHeartbeats 4000000
/-! Pk, part 1: data over an abstract heap; racks as a store; what may change between two states. -/
namespace Pk
open PySem L2 PySem.Spec PyProof.Rows

abbrev D := PyData

mutual
/-- the value v bears the data d; M: what never changes any more -/
inductive Rp (M : Hp) : V → D → Prop
  | non : Rp M .non .none
  | bl (b : Bool) : Rp M (.bl b) (.bool b)
  | int (i : Int) : Rp M (.int i) (.int i)
  | str (x : Str) : Rp M (.str x) (.str x)
  | lst {a : Addr} {xs : List V} {ds : List D} : M a = some (.lst xs) → RpA M xs ds → Rp M (.ref a) (.list ds)
  | tup {a : Addr} {xs : List V} {ds : List D} : M a = some (.tup xs) → RpA M xs ds → Rp M (.ref a) (.tuple ds)
inductive RpA (M : Hp) : List V → List D → Prop
  | nil : RpA M [] []
  | cons {v : V} {vs : List V} {d : D} {ds : List D} : Rp M v d → RpA M vs ds → RpA M (v :: vs) (d :: ds)
end

mutual
theorem Rp.mono {M M' : Hp} (e : Same M M') : ∀ {v : V} {d : D}, Rp M v d → Rp M' v d
  | _, _, .non => .non
  | _, _, .bl b => .bl b
  | _, _, .int i => .int i
  | _, _, .str x => .str x
  | _, _, .lst h r => .lst (e _ _ h) (RpA.mono e r)
  | _, _, .tup h r => .tup (e _ _ h) (RpA.mono e r)
theorem RpA.mono {M M' : Hp} (e : Same M M') : ∀ {vs : List V} {ds : List D}, RpA M vs ds → RpA M' vs ds
  | _, _, .nil => .nil
  | _, _, .cons h r => .cons (Rp.mono e h) (RpA.mono e r)
end
mutual
theorem Rp.dp {K : PySem.W.Frag} {M H : Hp} (e : Same M H) : ∀ {v : V} {d : D}, Rp M v d → Dp K H v d
  | _, _, .non => .non
  | _, _, .bl b => .bl b
  | _, _, .int i => .int i
  | _, _, .str x => .str x
  | _, _, .lst h r => .lst (SqL.of (e _ _ h)) (RpA.dp e r)
  | _, _, .tup h r => .tup (SqT.of (e _ _ h)) (RpA.dp e r)
theorem RpA.dp {K : PySem.W.Frag} {M H : Hp} (e : Same M H) : ∀ {vs : List V} {ds : List D}, RpA M vs ds → DpAll K H vs ds
  | _, _, .nil => .nil
  | _, _, .cons h r => .cons (Rp.dp e h) (RpA.dp e r)
end

section
variable {M : Hp} {vs ws : List V} {ds es : List D}
theorem RpA.length : ∀ {vs : List V} {ds : List D}, RpA M vs ds → vs.length = ds.length
  | _, _, .nil => rfl
  | _, _, .cons _ r => congrArg (· + 1) (RpA.length r)
theorem RpA.append : ∀ {vs : List V} {ds : List D}, RpA M vs ds → RpA M ws es → RpA M (vs ++ ws) (ds ++ es)
  | _, _, .nil, s => s
  | _, _, .cons h r, s => .cons h (RpA.append r s)
theorem RpA.snoc {v : V} {d : D} (r : RpA M vs ds) (h : Rp M v d) : RpA M (vs ++ [v]) (ds ++ [d]) := r.append (.cons h .nil)
theorem RpA.get : ∀ {vs : List V} {ds : List D} {i : Nat} {d : D}, RpA M vs ds → ds[i]? = some d → ∃ v, vs[i]? = some v ∧ Rp M v d
  | _, _, _, _, .nil, e => by simp at e
  | _, _, 0, _, .cons h _, e => by simp at e; subst e; exact ⟨_, rfl, h⟩
  | _, _, i + 1, d, .cons _ r, e => by
    obtain ⟨v, h1, h2⟩ := RpA.get (i := i) (d := d) r (by simpa using e)
    exact ⟨v, by simpa using h1, h2⟩
theorem RpA.get' : ∀ {vs : List V} {ds : List D} {i : Nat} {v : V}, RpA M vs ds → vs[i]? = some v → ∃ d, ds[i]? = some d ∧ Rp M v d
  | _, _, _, _, .nil, e => by simp at e
  | _, _, 0, _, .cons h _, e => by simp at e; subst e; exact ⟨_, rfl, h⟩
  | _, _, i + 1, v, .cons _ r, e => by
    obtain ⟨d, h1, h2⟩ := RpA.get' (i := i) (v := v) r (by simpa using e)
    exact ⟨d, by simpa using h1, h2⟩
theorem RpA.take : ∀ {vs : List V} {ds : List D} (n : Nat), RpA M vs ds → RpA M (vs.take n) (ds.take n)
  | _, _, 0, _ => by rw [List.take_zero, List.take_zero]; exact .nil
  | _, _, _ + 1, .nil => .nil
  | _, _, n + 1, .cons h r => .cons h (RpA.take n r)
theorem RpA.drop : ∀ {vs : List V} {ds : List D} (n : Nat), RpA M vs ds → RpA M (vs.drop n) (ds.drop n)
  | _, _, 0, r => r
  | _, _, _ + 1, .nil => .nil
  | _, _, n + 1, .cons _ r => RpA.drop n r
theorem RpA.set : ∀ {vs : List V} {ds : List D} {v : V} {d : D} (n : Nat), RpA M vs ds → Rp M v d → RpA M (vs.set n v) (ds.set n d)
  | _, _, _, _, _, .nil, _ => .nil
  | _, _, _, _, 0, .cons _ r, h => .cons h r
  | _, _, _, _, n + 1, .cons g r, h => .cons g (RpA.set n r h)
theorem RpA.insertIdx : ∀ {vs : List V} {ds : List D} {v : V} {d : D} (n : Nat), RpA M vs ds → Rp M v d → RpA M (vs.insertIdx n v) (ds.insertIdx n d)
  | _, _, _, _, 0, r, h => by rw [List.insertIdx_zero, List.insertIdx_zero]; exact .cons h r
  | _, _, _, _, _ + 1, .nil, _ => by rw [List.insertIdx_succ_nil, List.insertIdx_succ_nil]; exact .nil
  | _, _, _, _, n + 1, .cons g r, h => by rw [List.insertIdx_succ_cons, List.insertIdx_succ_cons]; exact .cons g (RpA.insertIdx n r h)
theorem RpA.ints : ∀ {ns : List Int} {vs : List V}, RpA M vs (ns.map PyData.int) → vs = ns.map V.int
  | [], _, .nil => rfl
  | n :: ns, _, .cons h r => by cases h; rw [RpA.ints r, List.map_cons]
theorem rpA_ints : ∀ (ns : List Int), RpA M (ns.map V.int) (ns.map PyData.int)
  | [] => .nil
  | n :: ns => .cons (.int n) (rpA_ints ns)
theorem RpA.strs : ∀ {ns : List Str} {vs : List V}, RpA M vs (ns.map PyData.str) → vs = ns.map V.str
  | [], _, .nil => rfl
  | n :: ns, _, .cons h r => by cases h; rw [RpA.strs r, List.map_cons]
theorem rpA_strs : ∀ (ns : List Str), RpA M (ns.map V.str) (ns.map PyData.str)
  | [] => .nil
  | n :: ns => .cons (.str n) (rpA_strs ns)
theorem RpA.nil_iff (r : RpA M vs ds) : vs = [] ↔ ds = [] := by cases r <;> simp
end

/-! ### racks -/
/-- where a rack stands: the instance, its own dict, the list of shelves, the dicts of boxes and places -/
structure Rk where
  p : Addr
  dx : Addr
  sh : Addr
  db : Addr
  dp : Addr
/-- what a rack holds -/
structure RS where
  shelves : List D
  boxes : List (Str × D)
  places : List (Str × D)

def rfs (r : Rk) : List (Str × V) := putF "places" (.ref r.dp) (putF "boxes" (.ref r.db) (putF "shelves" (.ref r.sh) []))
abbrev KVs (M : Hp) (kvs : List (Key × V)) (bs : List (Str × D)) : Prop := Paired (fun p q => p.1 = Sum.inr q.1 ∧ Rp M p.2 q.2) kvs bs
structure RackAt (C : Addr) (M H : Hp) (r : Rk) (s : RS) : Prop where
  ob : H r.p = some (.ins C r.dx (rfs r))
  sh : Rp M (.ref r.sh) (.list s.shelves)
  bx : ∃ kvs, H r.db = some (.dK kvs) ∧ KVs M kvs s.boxes
  pl : ∃ kvs, H r.dp = some (.dK kvs) ∧ KVs M kvs s.places
def foot : List Rk → List Addr
  | [] => []
  | r :: rs => r.p :: r.db :: r.dp :: foot rs
theorem mem_foot {a : Addr} : ∀ {rs : List Rk}, a ∈ foot rs → ∃ (i : Nat) (r : Rk), rs[i]? = some r ∧ (a = r.p ∨ a = r.db ∨ a = r.dp)
  | r :: rs, h => by
    unfold foot at h
    simp only [List.mem_cons] at h
    rcases h with h | h | h | h
    · exact ⟨0, r, rfl, .inl h⟩
    · exact ⟨0, r, rfl, .inr (.inl h)⟩
    · exact ⟨0, r, rfl, .inr (.inr h)⟩
    · obtain ⟨i, q, e, z⟩ := mem_foot h
      exact ⟨i + 1, q, e, z⟩
theorem foot_mem {r : Rk} : ∀ {rs : List Rk} {i : Nat}, rs[i]? = some r → r.p ∈ foot rs ∧ r.db ∈ foot rs ∧ r.dp ∈ foot rs
  | [], _, e => by simp at e
  | q :: rs, 0, e => by
    simp at e; subst e
    unfold foot
    simp
  | q :: rs, i + 1, e => by
    obtain ⟨h1, h2, h3⟩ := foot_mem (rs := rs) (i := i) (by simpa using e)
    unfold foot
    simp [h1, h2, h3]
theorem foot_append : ∀ (rs l : List Rk), foot (rs ++ l) = foot rs ++ foot l
  | [], _ => rfl
  | r :: rs, l => by
    show r.p :: r.db :: r.dp :: foot (rs ++ l) = _
    rw [foot_append rs l]
    rfl

/-- a state of the world: M within H, the racks rs hold S -/
structure Wd (C : Addr) (M H : Hp) (rs : List Rk) (S : List RS) : Prop where
  ex : Same M H
  ln : rs.length = S.length
  rk : ∀ (i : Nat) r s, rs[i]? = some r → S[i]? = some s → RackAt C M H r s
  mf : ∀ a ∈ foot rs, M a = none
  nd : (foot rs).Nodup

/-- from one state to a later one -/
structure Go (M H : Hp) (rs : List Rk) (M' H' : Hp) (rs' : List Rk) : Prop where
  m : Same M M'
  fr : ∀ a o, H a = some o → a ∉ foot rs → H' a = some o
  th : ∀ a, H a ≠ none → H' a ≠ none
  nw : ∀ a, H a ≠ none → M a = none → M' a = none
  xt : ∃ l, rs' = rs ++ l
  rf : ∀ a ∈ foot rs', a ∉ foot rs → H a = none

theorem Go.refl (M H : Hp) (rs : List Rk) : Go M H rs M H rs :=
  ⟨Same.refl M, fun _ _ h _ => h, fun _ h => h, fun _ _ h => h, ⟨[], (List.append_nil rs).symm⟩, fun _ h n => absurd h n⟩
theorem Go.trans {M H M1 H1 M2 H2 : Hp} {rs rs1 rs2 : List Rk} (a : Go M H rs M1 H1 rs1) (b : Go M1 H1 rs1 M2 H2 rs2) : Go M H rs M2 H2 rs2 where
  m := a.m.trans b.m
  fr := fun x o h n => b.fr x o (a.fr x o h n) fun q => by
    have z := a.rf x q n
    rw [h] at z; cases z
  th := fun x h => b.th x (a.th x h)
  nw := fun x h n => b.nw x (a.th x h) (a.nw x h n)
  xt := by
    obtain ⟨l, e⟩ := a.xt
    obtain ⟨l', e'⟩ := b.xt
    exact ⟨l ++ l', by rw [e', e, List.append_assoc]⟩
  rf := fun x h n => by
    by_cases q : x ∈ foot rs1
    · exact a.rf x q n
    · have z := b.rf x h q
      cases w : H x with
      | none => rfl
      | some o => exact absurd z (a.th x (by rw [w]; simp))

section
variable {C : Addr} {M H M' H' : Hp} {rs rs' : List Rk} {S S' : List RS}
theorem Wd.kind (w : Wd C M H rs S) {a : Addr} (h : a ∈ foot rs) : (∃ C dx fs, H a = some (.ins C dx fs)) ∨ ∃ kvs, H a = some (.dK kvs) := by
  obtain ⟨i, r, e, z⟩ := mem_foot h
  have hi : i < S.length := by rw [← w.ln]; exact (List.getElem?_eq_some_iff.mp e).1
  have R := w.rk i r _ e (List.getElem?_eq_getElem hi)
  rcases z with z | z | z
  · subst z; exact .inl ⟨_, _, _, R.ob⟩
  · subst z; obtain ⟨kvs, q, _⟩ := R.bx; exact .inr ⟨kvs, q⟩
  · subst z; obtain ⟨kvs, q, _⟩ := R.pl; exact .inr ⟨kvs, q⟩
theorem Wd.there (w : Wd C M H rs S) {a : Addr} (h : a ∈ foot rs) : H a ≠ none := by
  rcases w.kind h with ⟨_, _, _, e⟩ | ⟨_, e⟩ <;> (rw [e]; simp)
theorem Wd.nfoot (w : Wd C M H rs S) {a : Addr} {xs : List V} (h : H a = some (.lst xs)) : a ∉ foot rs := fun q => by
  rcases w.kind q with ⟨_, _, _, e⟩ | ⟨_, e⟩ <;> (rw [h] at e; cases e)
theorem KVs.mono (e : Same M M') {kvs : List (Key × V)} {bs : List (Str × D)} (r : KVs M kvs bs) : KVs M' kvs bs := Paired.mapP r fun _ _ z => ⟨z.1, z.2.mono e⟩
theorem RackAt.mono {r : Rk} {s : RS} (R : RackAt C M H r s) (e : Same M M') (h1 : H' r.p = H r.p) (h2 : H' r.db = H r.db) (h3 : H' r.dp = H r.dp) : RackAt C M' H' r s := by
  obtain ⟨a, b, ⟨k1, c, c'⟩, ⟨k2, d, d'⟩⟩ := R
  exact ⟨h1.trans a, b.mono e, ⟨k1, h2.trans c, KVs.mono e c'⟩, ⟨k2, h3.trans d, KVs.mono e d'⟩⟩
theorem RackAt.ne_new {r : Rk} {s : RS} (R : RackAt C M H r s) {p : Addr} (hp : H p = none) : r.p ≠ p ∧ r.db ≠ p ∧ r.dp ≠ p := by
  obtain ⟨a, _, ⟨k1, c, _⟩, ⟨k2, d, _⟩⟩ := R
  exact ⟨ne_of_none a hp, ne_of_none c hp, ne_of_none d hp⟩
theorem same_upd {p : Addr} {o : HO} (hp : M p = none) : Same M (upd M p o) := fun b u e => by rw [upd_ne (ne_of_none e hp)]; exact e
theorem Wd.mnone (w : Wd C M H rs S) {p : Addr} (hp : H p = none) : M p = none := w.ex.free hp
/-- a new object, never to be changed -/
theorem Wd.new (w : Wd C M H rs S) {p : Addr} (o : HO) (hp : H p = none) : Wd C (upd M p o) (upd H p o) rs S where
  ex := fun b u e => by
    by_cases q : b = p
    · subst q; rw [upd_same] at e ⊢; exact e
    · rw [upd_ne q] at e ⊢; exact w.ex b u e
  ln := w.ln
  rk := fun i r s e1 e2 => by
    have R := w.rk i r s e1 e2
    obtain ⟨n1, n2, n3⟩ := R.ne_new hp
    exact R.mono (same_upd (w.mnone hp)) (upd_ne n1) (upd_ne n2) (upd_ne n3)
  mf := fun a h => by
    rw [upd_ne (fun q : a = p => w.there h (by rw [q]; exact hp))]
    exact w.mf a h
  nd := w.nd
theorem Go.new {p : Addr} (o : HO) (w : Wd C M H rs S) (hp : H p = none) : Go M H rs (upd M p o) (upd H p o) rs where
  m := same_upd (w.mnone hp)
  fr := fun a u h _ => by rw [upd_ne (ne_of_none h hp)]; exact h
  th := fun a h => by rw [upd_ne (fun q : a = p => h (by rw [q]; exact hp))]; exact h
  nw := fun a h n => by rw [upd_ne (fun q : a = p => h (by rw [q]; exact hp))]; exact n
  xt := ⟨[], (List.append_nil rs).symm⟩
  rf := fun _ h n => absurd h n
/-- a new object that may be changed -/
theorem Wd.newH (w : Wd C M H rs S) {p : Addr} (o : HO) (hp : H p = none) : Wd C M (upd H p o) rs S where
  ex := fun b u e => by rw [upd_ne (ne_of_none (w.ex b u e) hp)]; exact w.ex b u e
  ln := w.ln
  rk := fun i r s e1 e2 => by
    have R := w.rk i r s e1 e2
    obtain ⟨n1, n2, n3⟩ := R.ne_new hp
    exact R.mono (Same.refl M) (upd_ne n1) (upd_ne n2) (upd_ne n3)
  mf := w.mf
  nd := w.nd
theorem Go.newH {p : Addr} (o : HO) (hp : H p = none) : Go M H rs M (upd H p o) rs where
  m := Same.refl M
  fr := fun a u h _ => by rw [upd_ne (ne_of_none h hp)]; exact h
  th := fun a h => by rw [upd_ne (fun q : a = p => h (by rw [q]; exact hp))]; exact h
  nw := fun _ _ n => n
  xt := ⟨[], (List.append_nil rs).symm⟩
  rf := fun _ h n => absurd h n
/-- a list that was made since is never changed any more -/
theorem Wd.frz (w : Wd C M H rs S) {l : Addr} {vs : List V} (h : H l = some (.lst vs)) (n : M l = none) : Wd C (upd M l (.lst vs)) H rs S where
  ex := fun b u e => by
    by_cases q : b = l
    · subst q; rw [upd_same] at e; rw [← e]; exact h
    · rw [upd_ne q] at e; exact w.ex b u e
  ln := w.ln
  rk := fun i r s e1 e2 => (w.rk i r s e1 e2).mono (same_upd n) rfl rfl rfl
  mf := fun a q => by
    rw [upd_ne (fun z : a = l => w.nfoot h (by rw [← z]; exact q))]
    exact w.mf a q
  nd := w.nd
theorem Go.frz {l : Addr} {vs : List V} (g : Go M H rs M' H' rs') (hn : H l = none) (n : M' l = none) : Go M H rs (upd M' l (.lst vs)) H' rs' where
  m := g.m.trans (same_upd n)
  fr := g.fr
  th := g.th
  nw := fun a h q => by rw [upd_ne (fun z : a = l => h (by rw [z]; exact hn))]; exact g.nw a h q
  xt := g.xt
  rf := g.rf
/-- a list that was made since is changed -/
theorem Wd.set (w : Wd C M H rs S) {l : Addr} {vs ws : List V} (h : H l = some (.lst vs)) (n : M l = none) : Wd C M (upd H l (.lst ws)) rs S where
  ex := fun b u e => by rw [upd_ne (ne_of_none e n)]; exact w.ex b u e
  ln := w.ln
  rk := fun i r s e1 e2 => by
    obtain ⟨m1, m2, m3⟩ := foot_mem e1
    have k : ∀ a, a ∈ foot rs → a ≠ l := fun a q z => w.nfoot h (by rw [← z]; exact q)
    exact (w.rk i r s e1 e2).mono (Same.refl M) (upd_ne (k _ m1)) (upd_ne (k _ m2)) (upd_ne (k _ m3))
  mf := w.mf
  nd := w.nd
theorem Go.set {l : Addr} {ws : List V} (g : Go M H rs M' H' rs') (hn : H l = none) : Go M H rs M' (upd H' l (.lst ws)) rs' where
  m := g.m
  fr := fun a o h q => by rw [upd_ne (ne_of_none h hn)]; exact g.fr a o h q
  th := fun a h => by rw [upd_ne (fun z : a = l => h (by rw [z]; exact hn))]; exact g.th a h
  nw := g.nw
  xt := g.xt
  rf := g.rf
theorem Go.back {p : Addr} (g : Go M H rs M' H' rs') (h : H' p = none) : H p = none := by
  cases q : H p with
  | none => rfl
  | some o => exact absurd h (g.th p (by rw [q]; simp))
theorem Go.rk {i : Nat} {r : Rk} (g : Go M H rs M' H' rs') (h : rs[i]? = some r) : rs'[i]? = some r := by
  obtain ⟨l, e⟩ := g.xt
  rw [e, List.getElem?_append_left (List.getElem?_eq_some_iff.mp h).1]
  exact h
end

/-! ### values -/
/-- what an expression gives or a name holds -/
inductive Xv where
  | val (d : D)
  /-- a list that nobody else knows -/
  | own (ds : List D)
  /-- a list of the caller's that is only read here -/
  | brw (ds : List D)
  /-- the script -/
  | scr (ns : List Int)
  | rack (i : Nat)
  /-- a pair of a rack and a list -/
  | pr (i : Nat) (ds : List D)
section
variable (K : PySem.W.Frag) (M H : Hp) (rs : List Rk)
def RelX (v : V) : Xv → Prop
  | .val d => Rp M v d
  | .own ds => ∃ l vs, v = .ref l ∧ H l = some (.lst vs) ∧ M l = none ∧ RpA M vs ds
  | .brw ds => ∃ l vs, v = .ref l ∧ H l = some (.lst vs) ∧ M l = none ∧ RpA M vs ds
  | .scr ns => ∃ a, v = .ref a ∧ SqL K M a (ns.map V.int)
  | .rack i => ∃ r, rs[i]? = some r ∧ v = .ref r.p
  | .pr i ds => ∃ r t l vs, rs[i]? = some r ∧ v = .ref t ∧ M t = some (.tup [.ref r.p, .ref l]) ∧ M l = some (.lst vs) ∧ RpA M vs ds
/-- a value that is only read -/
def RelP (v : V) : D → Prop
  | .list ds => ∃ l vs, v = .ref l ∧ H l = some (.lst vs) ∧ RpA M vs ds
  | d => Rp M v d
inductive RelXs : List V → List Xv → Prop
  | nil : RelXs [] []
  | cons {v : V} {vs : List V} {x : Xv} {xs : List Xv} : RelX K M H rs v x → RelXs vs xs → RelXs (v :: vs) (x :: xs)
end
/-- a list that is new against H -/
def Frs (H : Hp) (v : V) (x : Xv) : Prop := ∀ ds l, x = .own ds → v = .ref l → H l = none

section
variable {K : PySem.W.Frag} {C : Addr} {M H M' H' : Hp} {rs rs' : List Rk} {S S' : List RS} {v : V} {x : Xv} {d : D}
theorem same_rd {a : Addr} {u : HO} (e : Same M M') (h : Rd M a u) : Rd M' a u := by
  rcases h with h | ⟨o, h⟩
  · exact .inl (e _ _ h)
  · exact .inr ⟨o, e _ _ h⟩
theorem RelX.go (w : Wd C M H rs S) (g : Go M H rs M' H' rs') (h : RelX K M H rs v x) : RelX K M' H' rs' v x := by
  cases x with
  | val d => exact Rp.mono g.m h
  | own ds =>
    obtain ⟨l, vs, e, hl, n, r⟩ := h
    exact ⟨l, vs, e, g.fr l _ hl (w.nfoot hl), g.nw l (by rw [hl]; simp) n, r.mono g.m⟩
  | brw ds =>
    obtain ⟨l, vs, e, hl, n, r⟩ := h
    exact ⟨l, vs, e, g.fr l _ hl (w.nfoot hl), g.nw l (by rw [hl]; simp) n, r.mono g.m⟩
  | scr ns =>
    obtain ⟨a, e, q⟩ := h
    exact ⟨a, e, g.m.seq q⟩
  | rack i =>
    obtain ⟨r, e, q⟩ := h
    exact ⟨r, g.rk e, q⟩
  | pr i ds =>
    obtain ⟨r, t, l, vs, e, q, ht, hl, ra⟩ := h
    exact ⟨r, t, l, vs, g.rk e, q, g.m _ _ ht, g.m _ _ hl, ra.mono g.m⟩
theorem relP_rp (w : Wd C M H rs S) (h : Rp M v d) : RelP M H v d := by
  cases h with
  | lst h r => exact ⟨_, _, rfl, w.ex _ _ h, r⟩
  | non => exact .non
  | bl b => exact .bl b
  | int i => exact .int i
  | str y => exact .str y
  | tup h r => exact .tup h r
theorem RelP.go (w : Wd C M H rs S) (g : Go M H rs M' H' rs') (h : RelP M H v d) : RelP M' H' v d := by
  cases d with
  | list ds =>
    obtain ⟨l, vs, e, hl, r⟩ := h
    exact ⟨l, vs, e, g.fr l _ hl (w.nfoot hl), r.mono g.m⟩
  | none => exact Rp.mono g.m h
  | bool b => exact Rp.mono g.m h
  | int i => exact Rp.mono g.m h
  | str y => exact Rp.mono g.m h
  | tuple ds => exact Rp.mono g.m h
  | dict kvs => exact Rp.mono g.m h
theorem RelP.dp (w : Wd C M H rs S) (h : RelP M H v d) : Dp K H v d := by
  cases d with
  | list ds =>
    obtain ⟨l, vs, e, hl, r⟩ := h
    subst e
    exact .lst (SqL.of hl) (r.dp w.ex)
  | none => exact Rp.dp w.ex h
  | bool b => exact Rp.dp w.ex h
  | int i => exact Rp.dp w.ex h
  | str y => exact Rp.dp w.ex h
  | tuple ds => exact Rp.dp w.ex h
  | dict kvs => exact Rp.dp w.ex h
theorem RelP.int {i : Int} (h : RelP M H v (.int i)) : v = .int i := by cases (show Rp M v (.int i) from h); rfl
theorem RelP.bl {b : Bool} (h : RelP M H v (.bool b)) : v = .bl b := by cases (show Rp M v (.bool b) from h); rfl
theorem RelP.str {y : Str} (h : RelP M H v (.str y)) : v = .str y := by cases (show Rp M v (.str y) from h); rfl
theorem RelP.non (h : RelP M H v .none) : v = .non := by cases (show Rp M v .none from h); rfl
theorem RelP.tup {ds : List D} (h : RelP M H v (.tuple ds)) : ∃ a vs, v = .ref a ∧ M a = some (.tup vs) ∧ RpA M vs ds := by
  cases (show Rp M v (.tuple ds) from h) with
  | tup q r => exact ⟨_, _, rfl, q, r⟩
theorem RelP.nodict {kvs} (h : RelP M H v (.dict kvs)) : False := nomatch (show Rp M v (.dict kvs) from h)
theorem Rp.nodict {kvs} (h : Rp M v (.dict kvs)) : False := nomatch h
theorem Rp.tupI {ds : List D} (h : Rp M v (.tuple ds)) : ∃ a vs, v = .ref a ∧ M a = some (.tup vs) ∧ RpA M vs ds := by
  cases h with
  | tup h r => exact ⟨_, _, rfl, h, r⟩
theorem Rp.lstI {ds : List D} (h : Rp M v (.list ds)) : ∃ a vs, v = .ref a ∧ M a = some (.lst vs) ∧ RpA M vs ds := by
  cases h with
  | lst h r => exact ⟨_, _, rfl, h, r⟩
/-- only read -/
def nrm : Xv → Xv
  | .own ds => .val (.list ds)
  | .brw ds => .val (.list ds)
  | x => x
/-- a value that is only read -/
def RelQ (K : PySem.W.Frag) (M H : Hp) (rs : List Rk) (v : V) : Xv → Prop
  | .val d => RelP M H v d
  | .own _ => False
  | .brw _ => False
  | x => RelX K M H rs v x
theorem RelX.nrm (w : Wd C M H rs S) (h : RelX K M H rs v x) : RelQ K M H rs v (nrm x) := by
  cases x with
  | val d => exact relP_rp w h
  | own ds =>
    obtain ⟨l, vs, e, hl, n, r⟩ := h
    exact ⟨l, vs, e, hl, r⟩
  | brw ds =>
    obtain ⟨l, vs, e, hl, n, r⟩ := h
    exact ⟨l, vs, e, hl, r⟩
  | scr ns => exact h
  | rack i => exact h
  | pr i ds => exact h
theorem RelQ.go (w : Wd C M H rs S) (g : Go M H rs M' H' rs') (h : RelQ K M H rs v x) : RelQ K M' H' rs' v x := by
  cases x with
  | val d => exact RelP.go w g h
  | own ds => exact h
  | brw ds => exact h
  | scr ns => exact RelX.go (K := K) (x := .scr ns) w g h
  | rack i => exact RelX.go (K := K) (x := .rack i) w g h
  | pr i ds => exact RelX.go (K := K) (x := .pr i ds) w g h
theorem RelXs.go (w : Wd C M H rs S) (g : Go M H rs M' H' rs') : ∀ {vs : List V} {xs : List Xv}, RelXs K M H rs vs xs → RelXs K M' H' rs' vs xs
  | _, _, .nil => .nil
  | _, _, .cons h r => .cons (h.go w g) (RelXs.go w g r)
theorem RelXs.length : ∀ {vs : List V} {xs : List Xv}, RelXs K M H rs vs xs → vs.length = xs.length
  | _, _, .nil => rfl
  | _, _, .cons _ r => congrArg (· + 1) (RelXs.length r)
theorem RelXs.get : ∀ {vs : List V} {xs : List Xv} {i : Nat} {x : Xv}, RelXs K M H rs vs xs → xs[i]? = some x → ∃ v, vs[i]? = some v ∧ RelX K M H rs v x
  | _, _, _, _, .nil, e => by simp at e
  | _, _, 0, _, .cons h _, e => by simp at e; subst e; exact ⟨_, rfl, h⟩
  | _, _, i + 1, x, .cons _ r, e => by
    obtain ⟨v, h1, h2⟩ := RelXs.get (i := i) (x := x) r (by simpa using e)
    exact ⟨v, by simpa using h1, h2⟩
end
/-- all are data -/
def allD : List Xv → Option (List D)
  | [] => some []
  | .val d :: r => (allD r).map (d :: ·)
  | _ :: _ => none
theorem RelXs.data {K : PySem.W.Frag} {M H : Hp} {rs : List Rk} : ∀ {vs : List V} {xs : List Xv} {ds : List D}, RelXs K M H rs vs xs → allD xs = some ds → RpA M vs ds
  | _, [], _, .nil, e => by cases e; exact .nil
  | _, .val d :: r, ds, .cons h t, e => by
    unfold allD at e
    cases q : allD r with
    | none => rw [q] at e; cases e
    | some l =>
      rw [q] at e
      cases e
      exact .cons h (RelXs.data t q)
  | _, .own _ :: _, _, .cons _ _, e => by cases e
  | _, .brw _ :: _, _, .cons _ _, e => by cases e
  | _, .scr _ :: _, _, .cons _ _, e => by cases e
  | _, .rack _ :: _, _, .cons _ _, e => by cases e
  | _, .pr _ _ :: _, _, .cons _ _, e => by cases e
end Pk
/-! Pk, part 2: the meaning of expressions over data, and why it is what the readings ask. -/
namespace Pk
open PySem L2 PySem.Spec PyProof.Rows

inductive Out (α : Type) where
  | bad
  | ok (a : α) (S : List RS)
  | ex (c : Nat) (S : List RS)
def Out.bind {α β : Type} (o : Out α) (f : α → List RS → Out β) : Out β := match o with
  | .bad => .bad
  | .ok a S => f a S
  | .ex c S => .ex c S
theorem bind_ok {α β : Type} (a : α) (S : List RS) (f : α → List RS → Out β) : (Out.ok a S).bind f = f a S := rfl
theorem bind_bad {α β : Type} (f : α → List RS → Out β) : (Out.bad : Out α).bind f = .bad := rfl
theorem bind_ex {α β : Type} (c : Nat) (S : List RS) (f : α → List RS → Out β) : (Out.ex c S : Out α).bind f = .ex c S := rfl
def ofO {α : Type} (o : Option α) (S : List RS) : Out α := match o with
  | some a => .ok a S
  | none => .bad

/-- the class of the racks, the classes of the exceptions -/
structure Gx where
  C : Addr
  ca : Nat → Addr
abbrev Sl := List (Option Xv)
/-- the state at the entry -/
structure Base where
  M : Hp
  H : Hp
  rs : List Rk

section
variable (G : Gx) (M H : Hp) (rs : List Rk)
def Post {α ν : Type} (Rel : Hp → Hp → List Rk → ν → α → Prop) (W : XK) (o : Out α) (Q : ν → Hp → Prop) : Prop := match o with
  | .bad => False
  | .ok x S' => ∀ v M' H' rs', Go M H rs M' H' rs' → Wd G.C M' H' rs' S' → Rel M' H' rs' v x → Q v H'
  | .ex c S' => ∀ M' H' rs', Go M H rs M' H' rs' → Wd G.C M' H' rs' S' → W (.ref (G.ca c)) none H'
end
abbrev RE (K : PySem.W.Frag) (H : Hp) : Hp → Hp → List Rk → V → Xv → Prop := fun M' H' rs' v x => RelX K M' H' rs' v x ∧ Frs H v x
abbrev RQ (K : PySem.W.Frag) : Hp → Hp → List Rk → V → Xv → Prop := fun M' H' rs' v d => RelQ K M' H' rs' v d
abbrev RA (K : PySem.W.Frag) : Hp → Hp → List Rk → List V → List Xv → Prop := fun M' H' rs' vs xs => RelXs K M' H' rs' vs xs
abbrev RB : Hp → Hp → List Rk → Bool → Bool → Prop := fun _ _ _ b c => b = c
abbrev RO : Hp → Hp → List Rk → Option Int → Option Int → Prop := fun _ _ _ b c => b = c

section
variable {G : Gx} {K : PySem.W.Frag} {M H M1 H1 : Hp} {rs rs1 : List Rk} {S : List RS} {α β ν μ : Type} {W : XK}
theorem Post.bind {Rel1 : Hp → Hp → List Rk → ν → α → Prop} {Rel2 : Hp → Hp → List Rk → μ → β → Prop} {o : Out α} {g : α → List RS → Out β} {Q : μ → Hp → Prop} {R : ν → Hp → Prop} (h : Post G M H rs Rel2 W (o.bind g) Q)
    (k : ∀ x S1 v M1 H1 rs1, Go M H rs M1 H1 rs1 → Wd G.C M1 H1 rs1 S1 → Rel1 M1 H1 rs1 v x → Post G M H rs Rel2 W (g x S1) Q → R v H1) : Post G M H rs Rel1 W o R := by
  cases o with
  | bad => exact h
  | ok x S' => exact fun v M' H' rs' go wd rel => k x S' v M' H' rs' go wd rel h
  | ex c S' => exact h
theorem Post.late {Rel Rel1 : Hp → Hp → List Rk → ν → α → Prop} {o : Out α} {Q : ν → Hp → Prop} (go : Go M H rs M1 H1 rs1) (h : Post G M H rs Rel W o Q)
    (k : ∀ M' H' rs' v x, Rel1 M' H' rs' v x → Rel M' H' rs' v x) : Post G M1 H1 rs1 Rel1 W o Q := by
  cases o with
  | bad => exact h
  | ok x S' => exact fun v M' H' rs' g2 wd rel => h v M' H' rs' (go.trans g2) wd (k _ _ _ _ _ rel)
  | ex c S' => exact fun M' H' rs' g2 wd => h M' H' rs' (go.trans g2) wd
theorem Frs.back {v : V} {x : Xv} (g : Go M H rs M1 H1 rs1) (h : Frs H1 v x) : Frs H v x := fun ds l e1 e2 => g.back (h ds l e1 e2)
theorem Post.lateE {o : Out Xv} {Q : VK} (go : Go M H rs M1 H1 rs1) (h : Post G M H rs (RE K H) W o Q) : Post G M1 H1 rs1 (RE K H1) W o Q :=
  h.late go fun _ _ _ _ _ r => ⟨r.1, r.2.back go⟩
theorem Post.lateR {Rel : Hp → Hp → List Rk → ν → α → Prop} {o : Out α} {Q : ν → Hp → Prop} (go : Go M H rs M1 H1 rs1) (h : Post G M H rs Rel W o Q) : Post G M1 H1 rs1 Rel W o Q :=
  h.late go fun _ _ _ _ _ r => r
end

/-! ### the slots -/
structure Slots (K : PySem.W.Frag) (B : Base) (M H : Hp) (rs : List Rk) (σ : L2.St) (τ : Sl) : Prop where
  ln : σ.length = τ.length
  at_ : ∀ (i : Nat) x, τ[i]? = some (some x) → ∃ v, σ[i]? = some (some v) ∧ RelX K M H rs v x
  ap : ∀ (i j : Nat) x y, i ≠ j → τ[i]? = some (some (.own x)) → τ[j]? = some (some (.own y)) → σ[i]? ≠ σ[j]?
  fr : ∀ (i : Nat) x l, τ[i]? = some (some (.own x)) → σ[i]? = some (some (.ref l)) → B.H l = none
  br : ∀ (i : Nat) x l, τ[i]? = some (some (.brw x)) → σ[i]? = some (some (.ref l)) → B.H l ≠ none
  go : Go B.M B.H B.rs M H rs
section
variable {G : Gx} {K : PySem.W.Frag} {B : Base} {C : Addr} {M H M' H' : Hp} {rs rs' : List Rk} {S S' : List RS} {σ : L2.St} {τ : Sl}
theorem Slots.goes (s : Slots K B M H rs σ τ) (w : Wd C M H rs S) (g : Go M H rs M' H' rs') : Slots K B M' H' rs' σ τ :=
  ⟨s.ln, fun i x e => let ⟨v, h, r⟩ := s.at_ i x e; ⟨v, h, r.go w g⟩, s.ap, s.fr, s.br, s.go.trans g⟩
end

/-! ### readings given by meanings -/
abbrev FE := Sl → List RS → Out Xv
abbrev FA := Sl → List RS → Out (List Xv)
abbrev FT := Sl → List RS → Out Bool
abbrev FO := Sl → List RS → Out (Option Int)
section
variable (K : PySem.W.Frag) (G : Gx) (W : WX)
/-- the reading of f -/
def rOf {α ν : Type} (Rel : Base → Hp → Hp → Hp → List Rk → ν → α → Prop) (f : Sl → List RS → Out α) : L2.St → Hp → (ν → Hp → Prop) → Prop := fun σ H Q =>
  ∃ B M rs S τ, Wd G.C M H rs S ∧ Slots K B M H rs σ τ ∧ Post G M H rs (Rel B H) (WE W σ) (f τ S) Q
abbrev tE (f : FE) : TE := rOf K G W (fun _ H => RE K H) f
abbrev tQ (f : FE) : TE := rOf K G W (fun _ _ => RQ K) f
abbrev tA (f : FA) : TA := rOf K G W (fun _ _ => RA K) f
abbrev tT (f : FT) : TT := rOf K G W (fun _ _ => RB) f
abbrev tO (f : FO) : TO := rOf K G W (fun _ _ => RO) f
end
section
variable (X : Cx) (G : Gx) (W : WX)
def PD (e : Expr) (f : FE) : Prop := PE X e (tE X.K G W f)
def PP (e : Expr) (f : FE) : Prop := PE X e (tQ X.K G W f)
def PAs (es : List Expr) (f : FA) : Prop := PA X es (tA X.K G W f)
def PTt (e : Expr) (f : FT) : Prop := PT X e (tT X.K G W f)
def PWt (e : Expr) (f : FT) : Prop := PW X e (tT X.K G W f)
def POp (e : Option Expr) (f : FO) : Prop := PO X e (tO X.K G W f)
end
theorem PE.imp {X : Cx} {e : Expr} {t t' : TE} (h : PE X e t) (k : ∀ σ H Q, t' σ H Q → t σ H Q) : PE X e t' := ⟨fun pins s σ H Q I q => h.run pins s σ H Q I (k _ _ _ q)⟩
theorem PT.imp {X : Cx} {e : Expr} {t t' : TT} (h : PT X e t) (k : ∀ σ H Q, t' σ H Q → t σ H Q) : PT X e t' := ⟨fun pins s σ H Q I q => h.run pins s σ H Q I (k _ _ _ q)⟩
theorem PW.imp {X : Cx} {e : Expr} {t t' : TT} (h : PW X e t) (k : ∀ σ H Q, t' σ H Q → t σ H Q) : PW X e t' := ⟨fun wh pins s σ H Q I q => h.run wh pins s σ H Q I (k _ _ _ q)⟩
theorem PA.imp {X : Cx} {es : List Expr} {t t' : TA} (h : PA X es t) (k : ∀ σ H Q, t' σ H Q → t σ H Q) : PA X es t' := ⟨fun pos pins s σ H Q I q => h.run pos pins s σ H Q I (k _ _ _ q)⟩
theorem PO.imp {X : Cx} {e : Option Expr} {t t' : TO} (h : PO X e t) (k : ∀ σ H Q, t' σ H Q → t σ H Q) : PO X e t' := ⟨fun pins s σ H Q I q => h.run pins s σ H Q I (k _ _ _ q)⟩
theorem PS.imp {X : Cx} {e : Stmt} {t t' : TS} (h : PS X e t) (k : ∀ D σ H, t' D σ H → t D σ H) : PS X e t' := ⟨fun pins s σ H D I q => h.run pins s σ H D I (k _ _ _ q)⟩
theorem PSs.imp {X : Cx} {e : List Stmt} {t t' : TS} (h : PSs X e t) (k : ∀ D σ H, t' D σ H → t D σ H) : PSs X e t' := ⟨fun pins s σ H D I q => h.run pins s σ H D I (k _ _ _ q)⟩

section
variable {X : Cx} {G : Gx} {W : WX} {K : PySem.W.Frag} {e a b c : Expr} {es rest : List Expr} {pos : Pos} {fe fa fb fc pa pb pc : FE} {ta tb tc : FT} {ga gb : FA}
/-- from one part to the next -/
theorem r_bind {α β ν μ : Type} {R1 : Base → Hp → Hp → Hp → List Rk → ν → α → Prop} {R2 : Base → Hp → Hp → Hp → List Rk → μ → β → Prop} {f : Sl → List RS → Out α} {g : Sl → α → List RS → Out β} {σ : L2.St} {H : Hp} {Q : μ → Hp → Prop} {R : ν → Hp → Prop}
    (h : rOf K G W R2 (fun τ S => (f τ S).bind (g τ)) σ H Q)
    (k : ∀ B M rs τ x S1 v M1 H1 rs1, Go M H rs M1 H1 rs1 → Wd G.C M1 H1 rs1 S1 → Slots K B M1 H1 rs1 σ τ → R1 B H M1 H1 rs1 v x → Post G M H rs (R2 B H) (WE W σ) (g τ x S1) Q → R v H1) : rOf K G W R1 f σ H R := by
  obtain ⟨B, M, rs, S, τ, w, s, p⟩ := h
  exact ⟨B, M, rs, S, τ, w, s, p.bind fun x S1 v M1 H1 rs1 go wd r q => k B M rs τ x S1 v M1 H1 rs1 go wd (s.goes w go) r q⟩

/-! ### names, constants -/
def dVar (k : Nat) : FE := fun τ S => match τ[k]? with
  | some (some (.own _)) => .bad
  | some (some (.brw _)) => .bad
  | some (some x) => .ok x S
  | _ => .bad
def pVar (k : Nat) : FE := fun τ S => match τ[k]? with
  | some (some x) => .ok (nrm x) S
  | _ => .bad
def dC (d : D) : FE := fun _ S => .ok (.val d) S
abbrev pC := dC
theorem d_var (k : Nat) {x : Str} (hN : X.N[k]? = some x := by rfl) (hv : Vis X.env.scope x := by first | exact Or.inl rfl | exact Or.inr (Or.inl rfl) | exact Or.inr (Or.inr rfl)) (hd : (x == ("__debug__" : Str)) = false := by decide)
    (hcd : (x == ("__classdict__" : Str)) = false := by decide) : PD X G W (.Name x pos) (dVar k) := by
  refine PE.imp (pe_var (i := k) hN hv hd hcd) fun σ H Q h => ?_
  obtain ⟨B, M, rs, S, τ, w, s, p⟩ := h
  unfold dVar at p
  cases e : τ[k]? with
  | none => rw [e] at p; exact p.elim
  | some o =>
    cases o with
    | none => rw [e] at p; exact p.elim
    | some x =>
      obtain ⟨v, hv, r⟩ := s.at_ k x e
      rw [e] at p
      have fin : (∀ ds, x ≠ .own ds) → Post G M H rs (RE X.K H) (WE W σ) (.ok x S) Q → tVar k σ H Q := fun n h => ⟨v, hv, h v M H rs (Go.refl _ _ _) w ⟨r, fun ds l q _ => absurd q (n ds)⟩⟩
      cases x with
      | own ds => exact p.elim
      | brw ds => exact p.elim
      | val d => exact fin (fun _ q => nomatch q) p
      | scr d => exact fin (fun _ q => nomatch q) p
      | rack d => exact fin (fun _ q => nomatch q) p
      | pr d l => exact fin (fun _ q => nomatch q) p
theorem p_var (k : Nat) {x : Str} (hN : X.N[k]? = some x := by rfl) (hv : Vis X.env.scope x := by first | exact Or.inl rfl | exact Or.inr (Or.inl rfl) | exact Or.inr (Or.inr rfl)) (hd : (x == ("__debug__" : Str)) = false := by decide)
    (hcd : (x == ("__classdict__" : Str)) = false := by decide) : PP X G W (.Name x pos) (pVar k) := by
  refine PE.imp (pe_var (i := k) hN hv hd hcd) fun σ H Q h => ?_
  obtain ⟨B, M, rs, S, τ, w, s, p⟩ := h
  unfold pVar at p
  cases e : τ[k]? with
  | none => rw [e] at p; exact p.elim
  | some o =>
    cases o with
    | none => rw [e] at p; exact p.elim
    | some x =>
      obtain ⟨v, hv, r⟩ := s.at_ k x e
      rw [e] at p
      exact ⟨v, hv, p v M H rs (Go.refl _ _ _) w (r.nrm w)⟩
theorem d_c {v : V} {d : D} (h : PE X e (tC v)) (r : ∀ M, Rp M v d) : PD X G W e (dC d) := by
  refine PE.imp h fun σ H Q h => ?_
  obtain ⟨B, M, rs, S, τ, w, s, p⟩ := h
  exact p v M H rs (Go.refl _ _ _) w ⟨r M, fun _ _ q _ => nomatch q⟩
theorem p_c {v : V} {d : D} (h : PE X e (tC v)) (r : ∀ M, Rp M v d) : PP X G W e (pC d) := by
  refine PE.imp h fun σ H Q h => ?_
  obtain ⟨B, M, rs, S, τ, w, s, p⟩ := h
  exact p v M H rs (Go.refl _ _ _) w (relP_rp w (r M))
theorem d_int {i : Int} {j : Nat} : PD X G W (.Constant (.int i) j pos) (dC (.int i)) := d_c pe_int fun _ => .int i
theorem d_str {i : Str} {j : Nat} : PD X G W (.Constant (.str i) j pos) (dC (.str i)) := d_c pe_str fun _ => .str i
theorem d_bl {i : Bool} {j : Nat} : PD X G W (.Constant (.bool i) j pos) (dC (.bool i)) := d_c pe_bl fun _ => .bl i
theorem d_non {j : Nat} : PD X G W (.Constant .none j pos) (dC .none) := d_c pe_non fun _ => .non
theorem p_int {i : Int} {j : Nat} : PP X G W (.Constant (.int i) j pos) (pC (.int i)) := p_c pe_int fun _ => .int i
theorem p_str {i : Str} {j : Nat} : PP X G W (.Constant (.str i) j pos) (pC (.str i)) := p_c pe_str fun _ => .str i
theorem p_bl {i : Bool} {j : Nat} : PP X G W (.Constant (.bool i) j pos) (pC (.bool i)) := p_c pe_bl fun _ => .bl i
theorem p_non {j : Nat} : PP X G W (.Constant .none j pos) (pC .none) := p_c pe_non fun _ => .non
/-- a module's constant -/
theorem d_gint {x : Str} {i : Int} {t : Tok} (hg : Gl X x) (hm : X.mg x = some (.int i t)) (hdb : (x == ("__debug__" : Str)) = false := by decide) : PD X G W (.Name x pos) (dC (.int i)) := d_c (v := .int i) (pe_glob hg hm ⟨_, rfl⟩ hdb) fun _ => .int i
theorem p_gint {x : Str} {i : Int} {t : Tok} (hg : Gl X x) (hm : X.mg x = some (.int i t)) (hdb : (x == ("__debug__" : Str)) = false := by decide) : PP X G W (.Name x pos) (pC (.int i)) := p_c (v := .int i) (pe_glob hg hm ⟨_, rfl⟩ hdb) fun _ => .int i
theorem p_gstr {x : Str} {i : Str} {t : Tok} (hg : Gl X x) (hm : X.mg x = some (.str i t)) (hdb : (x == ("__debug__" : Str)) = false := by decide) : PP X G W (.Name x pos) (pC (.str i)) := p_c (v := .str i) (pe_glob hg hm ⟨_, rfl⟩ hdb) fun _ => .str i
/-- an expression that is only read -/
def pE (f : FE) : FE := fun τ S => (f τ S).bind fun x S1 => .ok (nrm x) S1
theorem p_E (h : PD X G W e fe) : PP X G W e (pE fe) :=
  PE.imp h fun σ H Q h => r_bind h fun B M rs τ x S1 v M1 H1 rs1 go wd s r q => q v M1 H1 rs1 go wd (r.1.nrm wd)
/-- a list that has just been made is never changed -/
def dF (f : FE) : FE := fun τ S => (f τ S).bind fun x S1 => match x with | .own ds => .ok (.val (.list ds)) S1 | x => .ok x S1
theorem d_F (h : PD X G W e fe) : PD X G W e (dF fe) := by
  refine PE.imp h fun σ H Q h => r_bind h fun B M rs τ x S1 v M1 H1 rs1 go wd s r q => ?_
  cases x with
  | own ds =>
    obtain ⟨⟨l, vs, rfl, hl, n, ra⟩, fr⟩ := r
    have hn := fr ds l rfl rfl
    exact q (.ref l) (upd M1 l (.lst vs)) H1 rs1 (go.frz hn n) (wd.frz hl n) ⟨.lst upd_same (ra.mono (same_upd n)), fun _ _ q _ => nomatch q⟩
  | val d => exact q v M1 H1 rs1 go wd r
  | brw d => exact q v M1 H1 rs1 go wd r
  | scr d => exact q v M1 H1 rs1 go wd r
  | rack d => exact q v M1 H1 rs1 go wd r
  | pr d l => exact q v M1 H1 rs1 go wd r

/-! ### operations by values -/
def OpS (K : PySem.W.Frag) (G : Gx) (r : R2) (g : Xv → Xv → Option Xv) : Prop :=
  ∀ M H rs S x y d e z W Q, Wd G.C M H rs S → RelQ K M H rs x d → RelQ K M H rs y e → g d e = some z → Post G M H rs (RE K H) W (.ok z S) Q → r x y H Q
def dOp (g : Xv → Xv → Option Xv) (fa fb : FE) : FE := fun τ S => (fa τ S).bind fun d S1 => (fb τ S1).bind fun e S2 => ofO (g d e) S2
theorem de_op {r : R2} {g : Xv → Xv → Option Xv} (o : OpS K G r g) {σ : L2.St} {H : Hp} {Q : VK} (h : tE K G W (dOp g pa pb) σ H Q) : tOp r (tQ K G W pa) (tQ K G W pb) σ H Q := by
  refine r_bind (R1 := fun _ _ => RQ K) h fun B M rs τ d S1 x M1 H1 rs1 go1 w1 s1 r1 h => ?_
  refine ⟨B, M1, rs1, S1, τ, w1, s1, (h.lateE go1).bind fun e S2 y M2 H2 rs2 go2 w2 r2 h => ?_⟩
  cases q : g d e with
  | none => rw [q] at h; exact h.elim
  | some z =>
    rw [q] at h
    exact o M2 H2 rs2 S2 x y d e z _ Q w2 (r1.go w1 go2) r2 q (h.lateE go2)
/-- the value is there at once -/
theorem Post.now {M H : Hp} {rs : List Rk} {S : List RS} {WW : XK} {Q : VK} {d : D} {v : V} (h : Post G M H rs (RE K H) WW (.ok (.val d) S) Q) (w : Wd G.C M H rs S) (r : Rp M v d) : Q v H :=
  h v M H rs (Go.refl _ _ _) w ⟨r, fun _ _ q _ => nomatch q⟩
/-- a new list -/
theorem Post.nlist {M H : Hp} {rs : List Rk} {S : List RS} {WW : XK} {Q : VK} {ds : List D} {vs : List V} (h : Post G M H rs (RE K H) WW (.ok (.own ds) S) Q) (w : Wd G.C M H rs S) (r : RpA M vs ds) {p : Addr} (hp : H p = none) : Q (.ref p) (upd H p (.lst vs)) :=
  h (.ref p) M (upd H p (.lst vs)) rs (Go.newH _ hp) (w.newH _ hp) ⟨⟨p, vs, rfl, upd_same, w.mnone hp, r⟩, fun _ l _ q => by cases q; exact hp⟩
/-- a new tuple -/
theorem Post.ntup {M H : Hp} {rs : List Rk} {S : List RS} {WW : XK} {Q : VK} {ds : List D} {vs : List V} (h : Post G M H rs (RE K H) WW (.ok (.val (.tuple ds)) S) Q) (w : Wd G.C M H rs S) (r : RpA M vs ds) {p : Addr} (hp : H p = none) : Q (.ref p) (upd H p (.tup vs)) :=
  h (.ref p) (upd M p (.tup vs)) (upd H p (.tup vs)) rs (Go.new _ w hp) (w.new _ hp) ⟨.tup upd_same (r.mono (same_upd (w.mnone hp))), fun _ _ q _ => nomatch q⟩

def gI (C : Int → Int → Bool) (g : Int → Int → D) : Xv → Xv → Option Xv
  | .val (.int i), .val (.int j) => if C i j then some (.val (g i j)) else none
  | _, _ => none
theorem gI_inv {C : Int → Int → Bool} {g : Int → Int → D} {d e : Xv} {z : Xv} (h : gI C g d e = some z) : ∃ i j, d = .val (.int i) ∧ e = .val (.int j) ∧ C i j = true ∧ z = .val (g i j) := by
  unfold gI at h
  split at h
  · rename_i i j
    split at h
    · cases h; exact ⟨i, j, rfl, rfl, by assumption, rfl⟩
    · cases h
  · cases h
theorem op_I {P : Int → Int → Prop} {C : Int → Int → Bool} {g : Int → Int → V} {g' : Int → Int → D} (hC : ∀ i j, C i j = true → P i j) (hg : ∀ M i j, Rp M (g i j) (g' i j)) : OpS K G (rI P g) (gI C g') := by
  intro M H rs S x y d e z WW Q w rx ry q p
  obtain ⟨i, j, rfl, rfl, hc, rfl⟩ := gI_inv q
  rw [RelP.int (show RelP M H x (.int i) from rx), RelP.int (show RelP M H y (.int j) from ry)]
  exact ⟨i, j, rfl, rfl, hC i j hc, p.now w (hg M i j)⟩
theorem op_I0 {g : Int → Int → V} {g' : Int → Int → D} (hg : ∀ M i j, Rp M (g i j) (g' i j)) : OpS K G (rI0 g) (gI (fun _ _ => true) g') := by
  intro M H rs S x y d e z WW Q w rx ry q p
  obtain ⟨i, j, rfl, rfl, hc, rfl⟩ := gI_inv q
  rw [RelP.int (show RelP M H x (.int i) from rx), RelP.int (show RelP M H y (.int j) from ry)]
  exact ⟨i, j, rfl, rfl, p.now w (hg M i j)⟩
abbrev yes2 : Int → Int → Bool := fun _ _ => true
/-- one factor below 2 ^ 64 -/
def cMul (i j : Int) : Bool := decide ((-(2 ^ 64) < i ∧ i < 2 ^ 64) ∨ (-(2 ^ 64) < j ∧ j < 2 ^ 64))
def cDiv (_ j : Int) : Bool := decide (0 < j ∧ j < 1073741824)
def cMod (_ j : Int) : Bool := decide (0 < j)
def cPow (i j : Int) : Bool := decide (0 ≤ j ∧ j ≤ 1000000 ∧ i.natAbs < 2 ^ 64)
theorem cMul_ok : ∀ i j, cMul i j = true → CMul i j := fun i j h => by
  have h' : (-(2 ^ 64) < i ∧ i < 2 ^ 64) ∨ (-(2 ^ 64) < j ∧ j < 2 ^ 64) := of_decide_eq_true h
  exact h'
theorem cDiv_ok : ∀ i j, cDiv i j = true → CDiv i j := fun i j h => by
  have h' : 0 < j ∧ j < 1073741824 := of_decide_eq_true h
  exact h'
theorem cMod_ok : ∀ i j, cMod i j = true → 0 < j := fun i j h => by
  have h' : 0 < j := of_decide_eq_true h
  exact h'
theorem cPow_ok : ∀ i j, cPow i j = true → CPow i j := fun i j h => by
  have h' : 0 ≤ j ∧ j ≤ 1000000 ∧ i.natAbs < 2 ^ 64 := of_decide_eq_true h
  exact h'
def dSub := dOp (gI yes2 fun i j => .int (i - j))
def dMul := dOp (gI cMul fun i j => .int (i * j))
def dDiv := dOp (gI cDiv fun i j => .int (i / j))
def dMod := dOp (gI cMod fun i j => .int (i % j))
def dPow := dOp (gI cPow fun i j => .int (i ^ j.toNat))
def dLt := dOp (gI yes2 fun i j => .bool (decide (i < j)))
def dLe := dOp (gI yes2 fun i j => .bool (decide (i ≤ j)))
def dGt := dOp (gI yes2 fun i j => .bool (decide (j < i)))
def dGe := dOp (gI yes2 fun i j => .bool (decide (j ≤ i)))
theorem d_bin {op : Operator} {r : R2} {g : Xv → Xv → Option Xv} (ho : OpR X (binaryOp op) r) (hs : OpS X.K G r g) (ha : PP X G W a pa) (hb : PP X G W b pb) : PD X G W (.BinOp a op b pos) (dOp g pa pb) :=
  PE.imp (pe_op ho ha hb) fun _ _ _ => de_op hs
theorem d_sub (ha : PP X G W a pa) (hb : PP X G W b pb) : PD X G W (.BinOp a .Sub b pos) (dSub pa pb) := d_bin op_sub (op_I0 fun _ _ _ => .int _) ha hb
theorem d_mul (ha : PP X G W a pa) (hb : PP X G W b pb) : PD X G W (.BinOp a .Mult b pos) (dMul pa pb) := d_bin op_mul (op_I cMul_ok fun _ _ _ => .int _) ha hb
theorem d_div (ha : PP X G W a pa) (hb : PP X G W b pb) : PD X G W (.BinOp a .FloorDiv b pos) (dDiv pa pb) := d_bin op_fdiv (op_I cDiv_ok fun _ _ _ => .int _) ha hb
theorem d_mod (ha : PP X G W a pa) (hb : PP X G W b pb) : PD X G W (.BinOp a .Mod b pos) (dMod pa pb) := d_bin op_mod (op_I cMod_ok fun _ _ _ => .int _) ha hb
theorem d_pow (ha : PP X G W a pa) (hb : PP X G W b pb) : PD X G W (.BinOp a .Pow b pos) (dPow pa pb) := d_bin op_pow (op_I cPow_ok fun _ _ _ => .int _) ha hb
/-- +: ints, texts, tuples, lists -/
def gAdd : Xv → Xv → Option Xv
  | .val (.int i), .val (.int j) => some (.val (.int (i + j)))
  | .val (.str x), .val (.str y) => if x.length + y.length ≤ 16777216 then some (.val (.str (x ++ y))) else none
  | .val (.tuple xs), .val (.tuple ys) => if xs.isEmpty = false ∧ ys.isEmpty = false ∧ xs.length + ys.length ≤ 16777216 then some (.val (.tuple (xs ++ ys))) else none
  | .val (.list xs), .val (.list ys) => if xs.length + ys.length ≤ 16777216 then some (.own (xs ++ ys)) else none
  | _, _ => none
def dAdd := dOp gAdd
def rAddAll (K : PySem.W.Frag) : R2 := fun x y H Q => rI0 (fun i j => .int (i + j)) x y H Q ∨ (fun x y H Q => (fun x y H Q => ∃ i j, x = .str i ∧ y = .str j ∧ i.length + j.length ≤ sizeLine ∧ Q (.str (i ++ j)) H) x y H Q ∨ (fun x y H Q => rCatT K x y H Q ∨ rCat x y H Q) x y H Q) x y H Q
theorem opR_addAll : OpR X (binaryOp .Add) (rAddAll X.K) := op_add.or (op_add_str.or (op_catT.or op_cat))
theorem opS_addAll : OpS K G (rAddAll K) gAdd := by
  intro M H rs S x y d e z WW Q w rx ry q p
  unfold gAdd at q
  have hsz : sizeLine = 16777216 := sizeLine_eq
  split at q
  · rename_i i j
    cases q
    rw [RelP.int (show RelP M H x (.int i) from rx), RelP.int (show RelP M H y (.int j) from ry)]
    exact .inl ⟨_, _, rfl, rfl, p.now w (.int _)⟩
  · rename_i i j
    split at q
    · rename_i hz
      cases q
      rw [RelP.str (show RelP M H x (.str i) from rx), RelP.str (show RelP M H y (.str j) from ry)]
      exact .inr (.inl ⟨_, _, rfl, rfl, by rw [hsz]; exact hz, p.now w (.str _)⟩)
    · cases q
  · rename_i xs ys
    split at q
    · rename_i hz
      cases q
      obtain ⟨a, vs, rfl, ha, ra⟩ := RelP.tup (show RelP M H x (.tuple xs) from rx)
      obtain ⟨b, ws, rfl, hb, rb⟩ := RelP.tup (show RelP M H y (.tuple ys) from ry)
      have n1 : vs ≠ [] := fun z => by rw [ra.nil_iff] at z; rw [z] at hz; exact absurd hz.1 (by simp)
      have n2 : ws ≠ [] := fun z => by rw [rb.nil_iff] at z; rw [z] at hz; exact absurd hz.2.1 (by simp)
      exact .inr (.inr (.inl ⟨a, b, vs, ws, rfl, rfl, SqT.of (w.ex _ _ ha), SqT.of (w.ex _ _ hb), n1, by rw [ra.length, rb.length, hsz]; exact hz.2.2, fun z => absurd z n2, fun _ t ht => p.ntup w (ra.append rb) ht⟩))
    · cases q
  · rename_i xs ys
    split at q
    · rename_i hz
      cases q
      obtain ⟨a, vs, rfl, ha, ra⟩ := (show RelP M H x (.list xs) from rx)
      obtain ⟨b, ws, rfl, hb, rb⟩ := (show RelP M H y (.list ys) from ry)
      exact .inr (.inr (.inr ⟨a, b, vs, ws, rfl, rfl, ha, hb, by rw [ra.length, rb.length, hsz]; exact hz, fun t ht => p.nlist w (ra.append rb) ht⟩))
    · cases q
  · cases q
theorem d_add (ha : PP X G W a pa) (hb : PP X G W b pb) : PD X G W (.BinOp a .Add b pos) (dAdd pa pb) := d_bin opR_addAll opS_addAll ha hb

/-! ### comparisons -/
theorem d_cmp {op : CmpOp} {r : R2} {g : Xv → Xv → Option Xv} (ho : OpR X (compareOp op) r) (hs : OpS X.K G r g) (ha : PP X G W a pa) (hb : PP X G W b pb) (hm : behindInMarks op b = false) : PD X G W (.Compare a [op] [b] pos) (dOp g pa pb) :=
  PE.imp (pe_cmpR ho ha hb hm) fun _ _ _ => de_op hs
/-- a value that is True or False, as a test -/
def tV (f : FE) : FT := fun τ S => (f τ S).bind fun x S1 => match x with | .val (.bool b) => .ok b S1 | _ => .bad
theorem dt_V {σ : L2.St} {H : Hp} {Q : Bool → Hp → Prop} (h : tT K G W (tV fe) σ H Q) : tTest (tE K G W fe) σ H Q := by
  refine r_bind h fun B M rs τ x S1 v M1 H1 rs1 go wd s r q => ?_
  cases x with
  | val d =>
    cases d with
    | bool b =>
      cases (show Rp M1 v (.bool b) from r.1)
      exact ⟨b, rfl, q b M1 H1 rs1 go wd rfl⟩
    | _ => exact q.elim
  | _ => exact q.elim
theorem t_val (h : PD X G W e fe) (he : ∀ whole, isTrue e X.env whole = (do let v ← whole; standAt e.pos; holding [v] (truthy v)) := by intro _; rfl) : PTt X G W e (tV fe) :=
  PT.imp (pt_val h he) fun _ _ _ h => dt_V h
theorem t_cmp {op : CmpOp} {r : R2} {g : Xv → Xv → Option Xv} (ho : OpR X (compareOp op) r) (hs : OpS X.K G r g) (ha : PP X G W a pa) (hb : PP X G W b pb) (hm : behindInMarks op b = false) : PTt X G W (.Compare a [op] [b] pos) (tV (dOp g pa pb)) := by
  refine PT.imp (pt_cmpR ho ha hb hm) fun σ H Q h => ?_
  have h2 := dt_V h
  have k : ∀ {Q : VK}, tE X.K G W (dOp g pa pb) σ H Q → tOp r (tQ X.K G W pa) (tQ X.K G W pb) σ H Q := fun q => de_op hs q
  exact k h2
theorem d_lt (ha : PP X G W a pa) (hb : PP X G W b pb) : PD X G W (.Compare a [.Lt] [b] pos) (dLt pa pb) := d_cmp op_lt (op_I0 fun _ _ _ => .bl _) ha hb (nomark _)
theorem d_le (ha : PP X G W a pa) (hb : PP X G W b pb) : PD X G W (.Compare a [.LtE] [b] pos) (dLe pa pb) := d_cmp op_le (op_I0 fun _ _ _ => .bl _) ha hb (nomark _)
theorem d_gt (ha : PP X G W a pa) (hb : PP X G W b pb) : PD X G W (.Compare a [.Gt] [b] pos) (dGt pa pb) := d_cmp op_gt (op_I0 fun _ _ _ => .bl _) ha hb (nomark _)
theorem d_ge (ha : PP X G W a pa) (hb : PP X G W b pb) : PD X G W (.Compare a [.GtE] [b] pos) (dGe pa pb) := d_cmp op_ge (op_I0 fun _ _ _ => .bl _) ha hb (nomark _)
theorem t_lt (ha : PP X G W a pa) (hb : PP X G W b pb) : PTt X G W (.Compare a [.Lt] [b] pos) (tV (dLt pa pb)) := t_cmp op_lt (op_I0 fun _ _ _ => .bl _) ha hb (nomark _)
theorem t_le (ha : PP X G W a pa) (hb : PP X G W b pb) : PTt X G W (.Compare a [.LtE] [b] pos) (tV (dLe pa pb)) := t_cmp op_le (op_I0 fun _ _ _ => .bl _) ha hb (nomark _)
theorem t_gt (ha : PP X G W a pa) (hb : PP X G W b pb) : PTt X G W (.Compare a [.Gt] [b] pos) (tV (dGt pa pb)) := t_cmp op_gt (op_I0 fun _ _ _ => .bl _) ha hb (nomark _)
theorem t_ge (ha : PP X G W a pa) (hb : PP X G W b pb) : PTt X G W (.Compare a [.GtE] [b] pos) (tV (dGe pa pb)) := t_cmp op_ge (op_I0 fun _ _ _ => .bl _) ha hb (nomark _)
/-- ==, != of data -/
def gEq : Xv → Xv → Option Xv
  | .val (.str a), .val (.str b) => some (.val (.bool (a == b)))
  | .val d, .val e => if SeqAt.shaped d && SeqAt.shaped e then some (.val (.bool (PyData.eqv d e))) else none
  | _, _ => none
def gNe : Xv → Xv → Option Xv
  | .val (.str a), .val (.str b) => some (.val (.bool (!(a == b))))
  | .val d, .val e => if SeqAt.shaped d && SeqAt.shaped e then some (.val (.bool (!PyData.eqv d e))) else none
  | _, _ => none
def dEq := dOp gEq
def dNe := dOp gNe
def rEqA (K : PySem.W.Frag) : R2 := fun x y H Q => rEq x y H Q ∨ rEqD K x y H Q
def rNeA (K : PySem.W.Frag) : R2 := fun x y H Q => rNe x y H Q ∨ rNeD K x y H Q
theorem op_eqA (hu : X.A.units + 64 < cLine) : OpR X (compareOp .Eq) (rEqA X.K) := op_eq.or (op_eqD hu)
theorem op_neA (hu : X.A.units + 64 < cLine) : OpR X (compareOp .NotEq) (rNeA X.K) := op_ne.or (op_neD hu)
theorem dec_str {a b : Str} : decide (V.str a = V.str b) = (a == b) := by
  rw [Bool.eq_iff_iff]
  simp
theorem opS_eq : OpS K G (rEqA K) gEq := by
  intro M H rs S x y d e z WW Q w rx ry q p
  unfold gEq at q
  split at q
  · rename_i a b
    cases q
    rw [RelP.str (show RelP M H x (.str a) from rx), RelP.str (show RelP M H y (.str b) from ry)]
    refine .inl ⟨rfl, ?_⟩
    rw [dec_str]
    exact p.now w (.bl _)
  · split at q
    · rename_i d e _ hs
      cases q
      rw [Bool.and_eq_true] at hs
      exact .inr ⟨d, e, RelP.dp w rx, RelP.dp w ry, hs.1, hs.2, p.now w (.bl _)⟩
    · cases q
  · cases q
theorem opS_ne : OpS K G (rNeA K) gNe := by
  intro M H rs S x y d e z WW Q w rx ry q p
  unfold gNe at q
  split at q
  · rename_i a b
    cases q
    rw [RelP.str (show RelP M H x (.str a) from rx), RelP.str (show RelP M H y (.str b) from ry)]
    refine .inl ⟨rfl, ?_⟩
    rw [dec_str]
    exact p.now w (.bl _)
  · split at q
    · rename_i d e _ hs
      cases q
      rw [Bool.and_eq_true] at hs
      exact .inr ⟨d, e, RelP.dp w rx, RelP.dp w ry, hs.1, hs.2, p.now w (.bl _)⟩
    · cases q
  · cases q
theorem d_eq (hu : X.A.units + 64 < cLine) (ha : PP X G W a pa) (hb : PP X G W b pb) : PD X G W (.Compare a [.Eq] [b] pos) (dEq pa pb) := d_cmp (op_eqA hu) opS_eq ha hb (nomark _)
theorem d_ne (hu : X.A.units + 64 < cLine) (ha : PP X G W a pa) (hb : PP X G W b pb) : PD X G W (.Compare a [.NotEq] [b] pos) (dNe pa pb) := d_cmp (op_neA hu) opS_ne ha hb (nomark _)
theorem t_eq (hu : X.A.units + 64 < cLine) (ha : PP X G W a pa) (hb : PP X G W b pb) : PTt X G W (.Compare a [.Eq] [b] pos) (tV (dEq pa pb)) := t_cmp (op_eqA hu) opS_eq ha hb (nomark _)
theorem t_ne (hu : X.A.units + 64 < cLine) (ha : PP X G W a pa) (hb : PP X G W b pb) : PTt X G W (.Compare a [.NotEq] [b] pos) (tV (dNe pa pb)) := t_cmp (op_neA hu) opS_ne ha hb (nomark _)
/-- is None, is not None -/
def isNon : D → Bool
  | .none => true
  | _ => false
def gIsN : Xv → Xv → Option Xv
  | .val d, .val .none => some (.val (.bool (isNon d)))
  | _, _ => none
def gNotN : Xv → Xv → Option Xv
  | .val d, .val .none => some (.val (.bool (!isNon d)))
  | _, _ => none
def dIsN := dOp gIsN
def dNotN := dOp gNotN
theorem relP_isN {M H : Hp} {v : V} {d : D} (h : RelP M H v d) : decide (v = .non) = isNon d := by
  cases d with
  | none => rw [h.non]; rfl
  | bool b => rw [h.bl]; rfl
  | int i => rw [h.int]; rfl
  | str y => rw [h.str]; rfl
  | tuple ds => obtain ⟨_, _, e, _⟩ := h.tup; rw [e]; rfl
  | list ds => obtain ⟨_, _, e, _⟩ := h; rw [e]; rfl
  | dict kvs => exact h.nodict.elim
theorem opS_isN : OpS K G (fun x y H Q => y = .non ∧ Q (.bl (decide (x = .non))) H) gIsN := by
  intro M H rs S x y d e z WW Q w rx ry q p
  unfold gIsN at q
  split at q
  · cases q
    refine ⟨RelP.non (show RelP M H y .none from ry), ?_⟩
    rw [relP_isN rx]
    exact p.now w (.bl _)
  · cases q
theorem opS_notN : OpS K G (fun x y H Q => y = .non ∧ Q (.bl (!decide (x = .non))) H) gNotN := by
  intro M H rs S x y d e z WW Q w rx ry q p
  unfold gNotN at q
  split at q
  · cases q
    refine ⟨RelP.non (show RelP M H y .none from ry), ?_⟩
    rw [relP_isN rx]
    exact p.now w (.bl _)
  · cases q
theorem d_isN (ha : PP X G W a pa) (hb : PP X G W b pb) : PD X G W (.Compare a [.Is] [b] pos) (dIsN pa pb) := d_cmp op_isN opS_isN ha hb (nomark _)
theorem d_notN (ha : PP X G W a pa) (hb : PP X G W b pb) : PD X G W (.Compare a [.IsNot] [b] pos) (dNotN pa pb) := d_cmp op_notN opS_notN ha hb (nomark _)
theorem t_isN (ha : PP X G W a pa) (hb : PP X G W b pb) : PTt X G W (.Compare a [.Is] [b] pos) (tV (dIsN pa pb)) := t_cmp op_isN opS_isN ha hb (nomark _)
theorem t_notN (ha : PP X G W a pa) (hb : PP X G W b pb) : PTt X G W (.Compare a [.IsNot] [b] pos) (tV (dNotN pa pb)) := t_cmp op_notN opS_notN ha hb (nomark _)
end
end Pk
/-! Pk, part 3: tests, parts of sequences, displays, built-ins. -/
namespace Pk
open PySem L2 PySem.Spec PyProof.Rows

section
variable {X : Cx} {G : Gx} {W : WX} {K : PySem.W.Frag} {e a b c : Expr} {es rest : List Expr} {pos : Pos} {fe fa fb fc pa pb pc : FE} {ta tb tc : FT} {ga gb : FA}

/-! ### and, or, not -/
def tAnd2 (ta tb : FT) : FT := fun τ S => (ta τ S).bind fun c S1 => if c = true then tb τ S1 else .ok false S1
def tOr2 (ta tb : FT) : FT := fun τ S => (ta τ S).bind fun c S1 => if c = true then .ok true S1 else tb τ S1
def tNot1 (ta : FT) : FT := fun τ S => (ta τ S).bind fun c S1 => .ok (!c) S1
theorem w_pt (h : PWt X G W e ta) : PTt X G W e ta := PW.pt h
theorem w_and1 (ha : PTt X G W a ta) : PWt X G W (.BoolOp .And [a] pos) ta := pw_and1 ha
theorem w_or1 (ha : PTt X G W a ta) : PWt X G W (.BoolOp .Or [a] pos) ta := pw_or1 ha
theorem w_and (ha : PTt X G W a ta) (hb : PWt X G W (.BoolOp .And (b :: rest) pos) tb) : PWt X G W (.BoolOp .And (a :: b :: rest) pos) (tAnd2 ta tb) := by
  refine PW.imp (pw_and ha hb) fun σ H Q h => ?_
  refine r_bind (R1 := fun _ _ => RB) h fun B M rs τ x S1 v M1 H1 rs1 go wd s r q => ?_
  obtain rfl : v = x := r
  cases v with
  | true => exact ⟨B, M1, rs1, S1, τ, wd, s, q.lateR go⟩
  | false => exact q false M1 H1 rs1 go wd rfl
theorem w_or (ha : PTt X G W a ta) (hb : PWt X G W (.BoolOp .Or (b :: rest) pos) tb) : PWt X G W (.BoolOp .Or (a :: b :: rest) pos) (tOr2 ta tb) := by
  refine PW.imp (pw_or ha hb) fun σ H Q h => ?_
  refine r_bind (R1 := fun _ _ => RB) h fun B M rs τ x S1 v M1 H1 rs1 go wd s r q => ?_
  obtain rfl : v = x := r
  cases v with
  | false => exact ⟨B, M1, rs1, S1, τ, wd, s, q.lateR go⟩
  | true => exact q true M1 H1 rs1 go wd rfl
theorem t_not (ha : PTt X G W a ta) : PTt X G W (.UnaryOp .Not a pos) (tNot1 ta) := by
  refine PT.imp (pt_not ha) fun σ H Q h => ?_
  refine r_bind (R1 := fun _ _ => RB) h fun B M rs τ x S1 v M1 H1 rs1 go wd s r q => ?_
  obtain rfl : v = x := r
  exact q _ M1 H1 rs1 go wd rfl
/-- as values -/
def dAnd (fa fb : FE) : FE := fun τ S => (fa τ S).bind fun x S1 => match x with
  | .val (.bool true) => fb τ S1
  | .val (.bool false) => .ok (.val (.bool false)) S1
  | _ => .bad
def dOr (fa fb : FE) : FE := fun τ S => (fa τ S).bind fun x S1 => match x with
  | .val (.bool false) => fb τ S1
  | .val (.bool true) => .ok (.val (.bool true)) S1
  | _ => .bad
def dNot (fa : FE) : FE := fun τ S => (fa τ S).bind fun x S1 => match x with
  | .val (.bool b) => .ok (.val (.bool (!b))) S1
  | _ => .bad
theorem d_one {op} (h : PD X G W a fa) : PD X G W (.BoolOp op [a] pos) fa := pe_one h
theorem d_and (ha : PD X G W a fa) (hb : PD X G W (.BoolOp .And (b :: rest) pos) fb) : PD X G W (.BoolOp .And (a :: b :: rest) pos) (dAnd fa fb) := by
  refine PE.imp (pe_and ha hb) fun σ H Q h => ?_
  refine r_bind (R1 := fun _ H => RE X.K H) h fun B M rs τ x S1 v M1 H1 rs1 go wd s r q => ?_
  split at q
  · cases (show Rp M1 v (.bool true) from r.1)
    exact ⟨true, rfl, B, M1, rs1, S1, τ, wd, s, q.lateE go⟩
  · cases (show Rp M1 v (.bool false) from r.1)
    exact ⟨false, rfl, q _ M1 H1 rs1 go wd ⟨.bl _, fun _ _ q _ => nomatch q⟩⟩
  · exact q.elim
theorem d_or (ha : PD X G W a fa) (hb : PD X G W (.BoolOp .Or (b :: rest) pos) fb) : PD X G W (.BoolOp .Or (a :: b :: rest) pos) (dOr fa fb) := by
  refine PE.imp (pe_or ha hb) fun σ H Q h => ?_
  refine r_bind (R1 := fun _ H => RE X.K H) h fun B M rs τ x S1 v M1 H1 rs1 go wd s r q => ?_
  split at q
  · cases (show Rp M1 v (.bool false) from r.1)
    exact ⟨false, rfl, B, M1, rs1, S1, τ, wd, s, q.lateE go⟩
  · cases (show Rp M1 v (.bool true) from r.1)
    exact ⟨true, rfl, q _ M1 H1 rs1 go wd ⟨.bl _, fun _ _ q _ => nomatch q⟩⟩
  · exact q.elim
theorem d_not (ha : PD X G W a fa) : PD X G W (.UnaryOp .Not a pos) (dNot fa) := by
  refine PE.imp (pe_not ha) fun σ H Q h => ?_
  refine r_bind (R1 := fun _ H => RE X.K H) h fun B M rs τ x S1 v M1 H1 rs1 go wd s r q => ?_
  split at q
  · rename_i b
    cases (show Rp M1 v (.bool b) from r.1)
    exact ⟨b, rfl, q _ M1 H1 rs1 go wd ⟨.bl _, fun _ _ q _ => nomatch q⟩⟩
  · exact q.elim
/-- -a -/
def gNeg : Xv → Option Xv
  | .val (.int i) => some (.val (.int (-i)))
  | _ => none
def dNeg (fa : FE) : FE := fun τ S => (fa τ S).bind fun x S1 => ofO (gNeg x) S1
theorem d_neg (ha : PP X G W a pa) : PD X G W (.UnaryOp .USub a pos) (dNeg pa) := by
  refine PE.imp (pe_un un_neg ha) fun σ H Q h => ?_
  refine r_bind (R1 := fun _ _ => RQ X.K) h fun B M rs τ x S1 v M1 H1 rs1 go wd s r q => ?_
  unfold gNeg at q
  split at q
  · rename_i i
    rw [RelP.int (show RelP M1 H1 v (.int i) from r)]
    exact ⟨i, rfl, (q.lateE go).now wd (.int _)⟩
  · exact q.elim

/-! ### in -/
def flatD : D → Bool
  | .none => true
  | .bool _ => true
  | .int _ => true
  | .str _ => true
  | _ => false
def eqF : D → D → Bool
  | .str a, .str b => a == b
  | .int a, .int b => a == b
  | _, _ => false
/-- texts alone -/
def isS : D → Bool
  | .str _ => true
  | _ => false
def gIn (neg : Bool) : Xv → Xv → Option Xv
  | .val d, .val (.list ds) => if SeqAt.shaped d && SeqAt.shaped (.list ds) then some (.val (.bool (if neg then !ds.any fun z => PyData.eqv z d else ds.any fun z => PyData.eqv z d))) else none
  | .val d, .val (.tuple ds) => if isS d && ds.all isS then some (.val (.bool (if neg then !ds.any fun z => eqF z d else ds.any fun z => eqF z d))) else none
  | .val (.str x), .val (.str z) => (match x.cps.toList with
    | [c] => some (.val (.bool (if neg then !decide (c ∈ z.cps.toList) else decide (c ∈ z.cps.toList))))
    | _ => none)
  | _, _ => none
def dIn := dOp (gIn false)
def dNin := dOp (gIn true)
def rInAll (K : PySem.W.Frag) (neg : Bool) : R2 := fun x y H Q => (if neg = true then rNotInD K else rInD K) x y H Q ∨ (fun x y H Q => rIn K neg x y H Q ∨ (fun x y H Q => ∃ (c : Nat) (z : Str), x = .str ⟨#[c]⟩ ∧ y = .str z ∧ Q (.bl (if neg then !decide (c ∈ z.cps.toList) else decide (c ∈ z.cps.toList))) H) x y H Q) x y H Q
theorem opR_in (hu : X.A.units + 65 < cLine) : OpR X (compareOp .In) (rInAll X.K false) := (op_inD hu).or (op_in_seq.or op_in_sign)
theorem opR_nin (hu : X.A.units + 65 < cLine) : OpR X (compareOp .NotIn) (rInAll X.K true) := (op_notInD hu).or (op_notIn_seq.or op_notIn_sign)
theorem isS_inv {d : D} (h : isS d = true) : ∃ x, d = .str x := by cases d <;> first | exact ⟨_, rfl⟩ | cases h
theorem strs_flat {M : Hp} : ∀ {vs : List V} {ds : List D} {x : Str}, RpA M vs ds → ds.all isS = true → vs.all flatV = true ∧ inV (.str x) vs = ds.any fun z => eqF z (.str x)
  | _, _, _, .nil, _ => ⟨rfl, rfl⟩
  | _, _, x, .cons h r, e => by
    rw [List.all_cons, Bool.and_eq_true] at e
    obtain ⟨y, rfl⟩ := isS_inv e.1
    cases h
    obtain ⟨h1, h2⟩ := strs_flat (x := x) r e.2
    refine ⟨by rw [List.all_cons, h1]; rfl, ?_⟩
    show (eqV (.str y) (.str x) || inV (.str x) _) = _
    rw [h2, List.any_cons]
    rfl
theorem opS_in {neg : Bool} : OpS K G (rInAll K neg) (gIn neg) := by
  intro M H rs S x y d e z WW Q w rx ry q p
  unfold gIn at q
  split at q
  · split at q
    · rename_i d ds hs
      cases q
      rw [Bool.and_eq_true] at hs
      refine .inl ?_
      cases neg with
      | true => exact ⟨d, ds, RelP.dp w rx, RelP.dp w ry, hs.1, hs.2, p.now w (.bl _)⟩
      | false => exact ⟨d, ds, RelP.dp w rx, RelP.dp w ry, hs.1, hs.2, p.now w (.bl _)⟩
    · cases q
  · split at q
    · rename_i d ds hs
      cases q
      rw [Bool.and_eq_true] at hs
      obtain ⟨t, rfl⟩ := isS_inv hs.1
      obtain ⟨a, vs, rfl, ha, ra⟩ := RelP.tup (show RelP M H y (.tuple ds) from ry)
      rw [RelP.str (show RelP M H x (.str t) from rx)]
      obtain ⟨f1, f2⟩ := strs_flat (x := t) ra hs.2
      refine .inr (.inl ⟨a, vs, rfl, .inr (SqT.of (w.ex _ _ ha)), rfl, f1, ?_⟩)
      rw [f2]
      exact p.now w (.bl _)
    · cases q
  · rename_i s z
    split at q
    · rename_i c hc
      cases q
      rw [RelP.str (show RelP M H x (.str s) from rx), RelP.str (show RelP M H y (.str z) from ry)]
      refine .inr (.inr ⟨c, z, ?_, rfl, p.now w (.bl _)⟩)
      obtain ⟨cp⟩ := s
      have e : cp = #[c] := by
        apply Array.ext'
        exact hc
      rw [e]
    · cases q
  · cases q
theorem d_in (hu : X.A.units + 65 < cLine) (ha : PP X G W a pa) (hb : PP X G W b pb) (hm : behindInMarks .In b = false := by with_unfolding_all rfl) : PD X G W (.Compare a [.In] [b] pos) (dIn pa pb) := d_cmp (opR_in hu) opS_in ha hb hm
theorem d_nin (hu : X.A.units + 65 < cLine) (ha : PP X G W a pa) (hb : PP X G W b pb) (hm : behindInMarks .NotIn b = false := by with_unfolding_all rfl) : PD X G W (.Compare a [.NotIn] [b] pos) (dNin pa pb) := d_cmp (opR_nin hu) opS_in ha hb hm
theorem t_in (hu : X.A.units + 65 < cLine) (ha : PP X G W a pa) (hb : PP X G W b pb) (hm : behindInMarks .In b = false := by with_unfolding_all rfl) : PTt X G W (.Compare a [.In] [b] pos) (tV (dIn pa pb)) := t_cmp (opR_in hu) opS_in ha hb hm
theorem t_nin (hu : X.A.units + 65 < cLine) (ha : PP X G W a pa) (hb : PP X G W b pb) (hm : behindInMarks .NotIn b = false := by with_unfolding_all rfl) : PTt X G W (.Compare a [.NotIn] [b] pos) (tV (dNin pa pb)) := t_cmp (opR_nin hu) opS_in ha hb hm

/-! ### x[i] -/
def gIx : Xv → Xv → Option Xv
  | .val (.list ds), .val (.int i) => (atI ds i).map .val
  | .val (.tuple ds), .val (.int i) => (atI ds i).map .val
  | .val (.str z), .val (.int i) => if z.length ≤ 16777216 then (atI z.cps.toList i).map fun c => .val (.str ⟨#[c]⟩) else none
  | .scr ns, .val (.int i) => (atI ns i).map fun n => .val (.int n)
  | _, _ => none
def dIx := dOp gIx
theorem RpA.atI {M : Hp} {vs : List V} {ds : List D} {i : Int} {d : D} (r : RpA M vs ds) (h : L2.atI ds i = some d) : ∃ v, L2.atI vs i = some v ∧ Rp M v d := by
  unfold L2.atI at h ⊢
  rw [r.length]
  cases e : ixN ds.length i with
  | none => rw [e] at h; cases h
  | some j =>
    rw [e] at h
    exact r.get h
theorem opS_ix : OpS K G (rIx K) gIx := by
  intro M H rs S x y d e z WW Q w rx ry q p
  have hsz : sizeLine = 16777216 := sizeLine_eq
  unfold gIx at q
  split at q
  · rename_i ds i
    cases h : atI ds i with
    | none => rw [h] at q; cases q
    | some d =>
      rw [h] at q
      cases q
      obtain ⟨l, vs, rfl, hl, ra⟩ := (show RelP M H x (.list ds) from rx)
      rw [RelP.int (show RelP M H y (.int i) from ry)]
      obtain ⟨v, hv, rv⟩ := ra.atI h
      exact .inl ⟨l, vs, i, v, rfl, rfl, SqL.of hl, hv, p.now w rv⟩
  · rename_i ds i
    cases h : atI ds i with
    | none => rw [h] at q; cases q
    | some d =>
      rw [h] at q
      cases q
      obtain ⟨l, vs, rfl, hl, ra⟩ := RelP.tup (show RelP M H x (.tuple ds) from rx)
      rw [RelP.int (show RelP M H y (.int i) from ry)]
      obtain ⟨v, hv, rv⟩ := ra.atI h
      exact .inr (.inl ⟨l, vs, i, v, rfl, rfl, SqT.of (w.ex _ _ hl), hv, p.now w rv⟩)
  · rename_i t i
    split at q
    · rename_i hz
      cases h : atI t.cps.toList i with
      | none => rw [h] at q; cases q
      | some c =>
        rw [h] at q
        cases q
        rw [RelP.str (show RelP M H x (.str t) from rx), RelP.int (show RelP M H y (.int i) from ry)]
        exact .inr (.inr ⟨t, i, c, rfl, rfl, by rw [hsz]; exact hz, h, p.now w (.str _)⟩)
    · cases q
  · rename_i ns i
    cases h : atI ns i with
    | none => rw [h] at q; cases q
    | some n =>
      rw [h] at q
      cases q
      obtain ⟨l, rfl, hl⟩ := (show RelX K M H rs x (.scr ns) from rx)
      rw [RelP.int (show RelP M H y (.int i) from ry)]
      refine .inl ⟨l, ns.map V.int, i, .int n, rfl, rfl, w.ex.seq hl, ?_, p.now w (.int _)⟩
      unfold L2.atI at h ⊢
      rw [List.length_map]
      cases e : ixN ns.length i with
      | none => rw [e] at h; cases h
      | some j =>
        rw [e] at h
        show (ns.map V.int)[j]? = _
        rw [List.getElem?_map, show ns[j]? = some n from h]
        rfl
  · cases q
theorem d_ix (ha : PP X G W a pa) (hb : PP X G W b pb) (hs : PlainIx b := by exact fun _ _ => rfl) : PD X G W (.Subscript a b pos) (dIx pa pb) :=
  PE.imp (pe_ix ix_seq ha hb hs) fun _ _ _ => de_op opS_ix

/-! ### x[i:j] -/
def oNone : FO := fun _ S => .ok none S
def oSome (f : FE) : FO := fun τ S => (f τ S).bind fun x S1 => match x with | .val (.int i) => .ok (some i) S1 | _ => .bad
theorem o_none : POp X G W none oNone := by
  refine PO.imp po_none fun σ H Q h => ?_
  obtain ⟨B, M, rs, S, τ, w, s, p⟩ := h
  exact p none M H rs (Go.refl _ _ _) w rfl
theorem o_some (h : PP X G W e fe) : POp X G W (some e) (oSome fe) := by
  refine PO.imp (po_some h) fun σ H Q h => ?_
  refine r_bind (R1 := fun _ _ => RQ X.K) h fun B M rs τ x S1 v M1 H1 rs1 go wd s r q => ?_
  split at q
  · rename_i i
    exact ⟨i, RelP.int (show RelP M1 H1 v (.int i) from r), q (some i) M1 H1 rs1 go wd rfl⟩
  · exact q.elim
def cutD {α : Type} (xs : List α) (lo hi : Option Int) : List α := (xs.drop (HT.sIx xs.length 0 lo)).take (HT.sIx xs.length xs.length hi - HT.sIx xs.length 0 lo)
theorem RpA.cut {M : Hp} {vs : List V} {ds : List D} (r : RpA M vs ds) (lo hi : Option Int) : RpA M (cutV vs lo hi) (cutD ds lo hi) := by
  unfold cutV cutD
  rw [r.length]
  exact (r.drop _).take _
def gSl (lo hi : Option Int) : Xv → Option Xv
  | .val (.list ds) => some (.own (cutD ds lo hi))
  | .val (.tuple ds) => some (.val (.tuple (cutD ds lo hi)))
  | .val (.str z) => if z.length ≤ 16777216 then some (.val (.str (cutS z lo hi))) else none
  | .scr ns => some (.own ((cutD ns lo hi).map .int))
  | _ => none
def dSl (fe : FE) (lo hi : FO) : FE := fun τ S => (fe τ S).bind fun x S1 => (lo τ S1).bind fun l S2 => (hi τ S2).bind fun u S3 => ofO (gSl l u x) S3
def rSlAll (K : PySem.W.Frag) : V → Option Int → Option Int → Hp → VK → Prop := fun x lo hi H Q => rSlL K x lo hi H Q ∨ (fun x lo hi H Q => rSlA K x lo hi H Q ∨ rSlS x lo hi H Q) x lo hi H Q
theorem slR_all : SlR X (rSlAll X.K) := sl_list.or (sl_tupA.or sl_str)
theorem cutD_all {α : Type} {xs : List α} {lo hi : Option Int} (h : HT.sIx xs.length 0 lo = 0 ∧ HT.sIx xs.length xs.length hi = xs.length) : cutD xs lo hi = xs := by
  unfold cutD
  rw [h.1, h.2]
  simp
theorem sl_S {M H : Hp} {rs : List Rk} {S : List RS} {v : V} {x z : Xv} {l u : Option Int} {WW : XK} {Q : VK} (w : Wd G.C M H rs S) (r : RelQ K M H rs v x) (e : gSl l u x = some z) (q : Post G M H rs (RE K H) WW (.ok z S) Q) : rSlAll K v l u H Q := by
  have hsz : sizeLine = 16777216 := sizeLine_eq
  unfold gSl at e
  split at e
  · rename_i ds
    cases e
    obtain ⟨l, vs, rfl, hl, ra⟩ := (show RelP M H v (.list ds) from r)
    exact .inl ⟨l, vs, rfl, SqL.of hl, fun p hp => q.nlist w (ra.cut _ _) hp⟩
  · rename_i ds
    cases e
    obtain ⟨l, vs, rfl, hl, ra⟩ := RelP.tup (show RelP M H v (.tuple ds) from r)
    refine .inr (.inl ⟨l, vs, rfl, SqT.of (w.ex _ _ hl), fun z => ?_, fun _ p hp => q.ntup w (ra.cut _ _) hp⟩)
    refine q.now w ?_
    rw [ra.length] at z
    rw [cutD_all z]
    exact .tup hl ra
  · rename_i z
    split at e
    · rename_i hz
      cases e
      rw [RelP.str (show RelP M H v (.str z) from r)]
      exact .inr (.inr ⟨z, rfl, by rw [hsz]; exact hz, q.now w (.str _)⟩)
    · cases e
  · rename_i ns
    cases e
    obtain ⟨a, rfl, hl⟩ := (show RelX K M H rs v (.scr ns) from r)
    refine .inl ⟨a, ns.map V.int, rfl, w.ex.seq hl, fun p hp => ?_⟩
    have ra : RpA M (cutV (ns.map V.int) l u) ((cutD ns l u).map .int) := by
      have e : cutV (ns.map V.int) l u = (cutD ns l u).map V.int := by
        unfold cutV cutD
        rw [List.length_map, ← List.map_drop, ← List.map_take]
      rw [e]
      exact rpA_ints _
    exact q.nlist w ra hp
  · cases e
theorem d_sl {lo hi : Option Expr} {p2 : Pos} {l u : FO} (he : PP X G W e fe) (hl : POp X G W lo l) (hu : POp X G W hi u) : PD X G W (.Subscript e (.Slice lo hi none p2) pos) (dSl fe l u) := by
  refine PE.imp (pe_slice slR_all he hl hu) fun σ H Q h => ?_
  refine r_bind (R1 := fun _ _ => RQ X.K) h fun B M rs τ x S1 v M1 H1 rs1 go1 w1 s1 r1 q1 => ?_
  refine ⟨B, M1, rs1, S1, τ, w1, s1, (q1.lateE go1).bind fun lo S2 l' M2 H2 rs2 go2 w2 r2 q2 => ?_⟩
  obtain rfl : l' = lo := r2
  refine ⟨B, M2, rs2, S2, τ, w2, s1.goes w1 go2, (q2.lateE go2).bind fun hi S3 u' M3 H3 rs3 go3 w3 r3 q3 => ?_⟩
  obtain rfl : u' = hi := r3
  have r : RelQ X.K M3 H3 rs3 v x := (r1.go w1 go2).go w2 go3
  have q := q3.lateE go3
  cases e : gSl l' u' x with
  | none => rw [e] at q; exact q.elim
  | some z =>
    rw [e] at q
    exact sl_S w3 r e q

/-! ### argument lists, displays -/
def aNil : FA := fun _ S => .ok [] S
def aCons (f : FE) (g : FA) : FA := fun τ S => (f τ S).bind fun x S1 => (g τ S1).bind fun xs S2 => .ok (x :: xs) S2
def xNoOwn : Xv → Bool
  | .own _ => false
  | _ => true
theorem a_nil : PAs X G W [] aNil := by
  refine PA.imp pa_nil fun σ H Q h => ?_
  obtain ⟨B, M, rs, S, τ, w, s, p⟩ := h
  exact p [] M H rs (Go.refl _ _ _) w .nil
theorem a_cons (ha : PD X G W a fa) (hr : PAs X G W es ga) (hs : starEach (a :: es) X.env = (false, eval a X.env) :: starEach es X.env := by rfl) : PAs X G W (a :: es) (aCons fa ga) := by
  refine PA.imp (pa_cons ha hr hs) fun σ H Q h => ?_
  refine r_bind (R1 := fun _ H => RE X.K H) h fun B M rs τ x S1 v M1 H1 rs1 go1 w1 s1 r1 q => ?_
  refine ⟨B, M1, rs1, S1, τ, w1, s1, (q.lateR go1).bind fun xs S2 vs M2 H2 rs2 go2 w2 r2 q => ?_⟩
  exact (q.lateR go2) (v :: vs) M2 H2 rs2 (Go.refl _ _ _) w2 (.cons (r1.1.go w1 go2) r2)
/-- an argument: the caller's own list is read there -/
def aVar (k : Nat) : FE := fun τ S => match τ[k]? with
  | some (some (.own ds)) => .ok (.brw ds) S
  | some (some x) => .ok x S
  | _ => .bad
theorem a_var (k : Nat) {x : Str} (hN : X.N[k]? = some x := by rfl) (hv : Vis X.env.scope x := by first | exact Or.inl rfl | exact Or.inr (Or.inl rfl) | exact Or.inr (Or.inr rfl)) (hd : (x == ("__debug__" : Str)) = false := by decide)
    (hcd : (x == ("__classdict__" : Str)) = false := by decide) : PD X G W (.Name x pos) (aVar k) := by
  refine PE.imp (pe_var (i := k) hN hv hd hcd) fun σ H Q h => ?_
  obtain ⟨B, M, rs, S, τ, w, s, p⟩ := h
  unfold aVar at p
  cases e : τ[k]? with
  | none => rw [e] at p; exact p.elim
  | some o =>
    cases o with
    | none => rw [e] at p; exact p.elim
    | some x =>
      obtain ⟨v, hv, r⟩ := s.at_ k x e
      rw [e] at p
      cases x with
      | own ds => exact ⟨v, hv, p v M H rs (Go.refl _ _ _) w ⟨r, fun _ _ q _ => nomatch q⟩⟩
      | brw ds => exact ⟨v, hv, p v M H rs (Go.refl _ _ _) w ⟨r, fun _ _ q _ => nomatch q⟩⟩
      | val d => exact ⟨v, hv, p v M H rs (Go.refl _ _ _) w ⟨r, fun _ _ q _ => nomatch q⟩⟩
      | scr d => exact ⟨v, hv, p v M H rs (Go.refl _ _ _) w ⟨r, fun _ _ q _ => nomatch q⟩⟩
      | rack d => exact ⟨v, hv, p v M H rs (Go.refl _ _ _) w ⟨r, fun _ _ q _ => nomatch q⟩⟩
      | pr d l => exact ⟨v, hv, p v M H rs (Go.refl _ _ _) w ⟨r, fun _ _ q _ => nomatch q⟩⟩
def dTup (g : FA) : FE := fun τ S => (g τ S).bind fun xs S1 => match allD xs with | some ds => if ds.length ≤ 16777216 then .ok (.val (.tuple ds)) S1 else .bad | none => .bad
def dLst (g : FA) : FE := fun τ S => (g τ S).bind fun xs S1 => match allD xs with | some ds => if ds.length ≤ 16777216 then .ok (.own ds) S1 else .bad | none => .bad
theorem d_tup {x1} (h : PAs X G W es ga) : PD X G W (.Tuple es x1 pos) (dTup ga) := by
  refine PE.imp (pe_tup h) fun σ H Q h => ?_
  refine r_bind (R1 := fun _ _ => RA X.K) h fun B M rs τ xs S1 vs M1 H1 rs1 go1 w1 s1 r1 q => ?_
  cases e : allD xs with
  | none => rw [e] at q; exact q.elim
  | some ds =>
    rw [e] at q
    dsimp only at q
    have ra := r1.data e
    by_cases hz : ds.length ≤ 16777216
    · rw [if_pos hz] at q
      refine ⟨by rw [ra.length, sizeLine_eq]; exact hz, fun p hp => (q.lateE go1).ntup w1 ra hp⟩
    · rw [if_neg hz] at q; exact q.elim
theorem d_lst (h : PAs X G W es ga) : PD X G W (.List es pos) (dLst ga) := by
  refine PE.imp (pe_lst h) fun σ H Q h => ?_
  refine r_bind (R1 := fun _ _ => RA X.K) h fun B M rs τ xs S1 vs M1 H1 rs1 go1 w1 s1 r1 q => ?_
  cases e : allD xs with
  | none => rw [e] at q; exact q.elim
  | some ds =>
    rw [e] at q
    dsimp only at q
    have ra := r1.data e
    by_cases hz : ds.length ≤ 16777216
    · rw [if_pos hz] at q
      refine ⟨by rw [ra.length, sizeLine_eq]; exact hz, fun p hp => (q.lateE go1).nlist w1 ra hp⟩
    · rw [if_neg hz] at q; exact q.elim

/-! ### built-ins -/
/-- a built-in by values, of arguments that are only read -/
abbrev BR := List V → Hp → VK → Prop
def BS (K : PySem.W.Frag) (G : Gx) (r : BR) (g : List Xv → Option Xv) : Prop :=
  ∀ M H rs S vs xs z W Q, Wd G.C M H rs S → RelQs K M H rs vs xs → g xs = some z → Post G M H rs (RE K H) W (.ok z S) Q → r vs H Q
where RelQs (K : PySem.W.Frag) (M H : Hp) (rs : List Rk) : List V → List Xv → Prop
  | [], [] => True
  | v :: vs, x :: xs => RelQ K M H rs v x ∧ RelQs K M H rs vs xs
  | _, _ => False
abbrev RQs (K : PySem.W.Frag) : Hp → Hp → List Rk → List V → List Xv → Prop := fun M' H' rs' vs xs => BS.RelQs K M' H' rs' vs xs
theorem relQs_go {M H M1 H1 : Hp} {rs rs1 : List Rk} {S : List RS} {C : Addr} (w : Wd C M H rs S) (g : Go M H rs M1 H1 rs1) : ∀ {vs : List V} {xs : List Xv}, BS.RelQs K M H rs vs xs → BS.RelQs K M1 H1 rs1 vs xs
  | [], [], _ => trivial
  | _ :: _, _ :: _, h => ⟨h.1.go w g, relQs_go w g h.2⟩
  | [], _ :: _, h => h.elim
  | _ :: _, [], h => h.elim
abbrev tQs (K : PySem.W.Frag) (G : Gx) (W : WX) (f : FA) : TA := rOf K G W (fun _ _ => RQs K) f
def PQs (X : Cx) (G : Gx) (W : WX) (es : List Expr) (f : FA) : Prop := PA X es (tQs X.K G W f)
theorem q_nil : PQs X G W [] aNil := by
  refine PA.imp pa_nil fun σ H Q h => ?_
  obtain ⟨B, M, rs, S, τ, w, s, p⟩ := h
  exact p [] M H rs (Go.refl _ _ _) w trivial
theorem q_cons (ha : PP X G W a fa) (hr : PQs X G W es ga) (hs : starEach (a :: es) X.env = (false, eval a X.env) :: starEach es X.env := by rfl) : PQs X G W (a :: es) (aCons fa ga) := by
  refine PA.imp (pa_cons ha hr hs) fun σ H Q h => ?_
  refine r_bind (R1 := fun _ _ => RQ X.K) h fun B M rs τ x S1 v M1 H1 rs1 go1 w1 s1 r1 q => ?_
  refine ⟨B, M1, rs1, S1, τ, w1, s1, (q.lateR go1).bind fun xs S2 vs M2 H2 rs2 go2 w2 r2 q => ?_⟩
  exact (q.lateR go2) (v :: vs) M2 H2 rs2 (Go.refl _ _ _) w2 ⟨r1.go w1 go2, r2⟩
def dB (g : List Xv → Option Xv) (fa : FA) : FE := fun τ S => (fa τ S).bind fun xs S1 => ofO (g xs) S1
theorem db_imp {r : BR} {g : List Xv → Option Xv} (hs : BS K G r g) {σ : L2.St} {H : Hp} {Q : VK} (h : tE K G W (dB g ga) σ H Q) : tCB r (tQs K G W ga) σ H Q := by
  refine r_bind (R1 := fun _ _ => RQs K) h fun B M rs τ xs S1 vs M1 H1 rs1 go1 w1 s1 r1 q => ?_
  cases e : g xs with
  | none => rw [e] at q; exact q.elim
  | some z =>
    rw [e] at q
    exact hs M1 H1 rs1 S1 vs xs z _ Q w1 r1 e (q.lateE go1)
theorem d_callB {x : Str} {id : String} {r : BR} {g : List Xv → Option Xv} {p : Pos} (hs : BS X.K G r g) (hc : CallR X (.builtin id) r) (hg : Gl X x) (hm : X.mg x = none) (hv : bootBuiltins x = some (.builtin id)) (ha : PQs X G W (a :: es) ga) (hn : x ≠ "__name__" := by decide) (hdb : (x == ("__debug__" : Str)) = false := by decide)
    (he : starEach (a :: es) X.env = (false, eval a X.env) :: starEach es X.env := by rfl) (hpl : (backTo pos (starEach es X.env)).any (·.1) = false := by rfl) : PD X G W (.Call (.Name x p) (a :: es) [] pos) (dB g ga) :=
  PE.imp (pe_callB hc hg hm hv ha hn hdb he hpl) fun _ _ _ h => db_imp hs h
theorem d_callTy {x : Str} {id : String} {r : BR} {g : List Xv → Option Xv} {p : Pos} (hs : BS X.K G r g) (hc : CallR X (.type id) r) (hg : Gl X x) (hm : X.mg x = none) (hv : bootBuiltins x = some (.type id)) (ha : PQs X G W (a :: es) ga) (hn : x ≠ "__name__" := by decide) (hdb : (x == ("__debug__" : Str)) = false := by decide)
    (he : starEach (a :: es) X.env = (false, eval a X.env) :: starEach es X.env := by rfl) (hpl : (backTo pos (starEach es X.env)).any (·.1) = false := by rfl) : PD X G W (.Call (.Name x p) (a :: es) [] pos) (dB g ga) :=
  PE.imp (pe_callTy hc hg hm hv ha hn hdb he hpl) fun _ _ _ h => db_imp hs h
/-- len -/
def gLen : List Xv → Option Xv
  | [.val (.list ds)] => some (.val (.int ds.length))
  | [.val (.tuple ds)] => some (.val (.int ds.length))
  | [.val (.str z)] => if z.length ≤ 16777216 then some (.val (.int z.length)) else none
  | [.scr ns] => some (.val (.int ns.length))
  | _ => none
theorem relQs1 {M H : Hp} {rs : List Rk} {vs : List V} {x : Xv} (h : BS.RelQs K M H rs vs [x]) : ∃ v, vs = [v] ∧ RelQ K M H rs v x := by
  match vs, h with
  | [v], h => exact ⟨v, rfl, h.1⟩
theorem relQs2 {M H : Hp} {rs : List Rk} {vs : List V} {x y : Xv} (h : BS.RelQs K M H rs vs [x, y]) : ∃ v u, vs = [v, u] ∧ RelQ K M H rs v x ∧ RelQ K M H rs u y := by
  match vs, h with
  | [v, u], h => exact ⟨v, u, rfl, h.1, h.2.1⟩
theorem bs_len : BS K G (fun xs H Q => ∃ x n, xs = [x] ∧ LenV K x H n ∧ Q (.int n) H) gLen := by
  intro M H rs S vs xs z WW Q w r e p
  have hsz : sizeLine = 16777216 := sizeLine_eq
  unfold gLen at e
  split at e
  · rename_i ds
    cases e
    obtain ⟨v, rfl, r1⟩ := relQs1 r
    obtain ⟨l, vs, rfl, hl, ra⟩ := (show RelP M H v (.list ds) from r1)
    exact ⟨_, ds.length, rfl, .inl ⟨vs, SqL.of hl, ra.length.symm⟩, p.now w (.int _)⟩
  · rename_i ds
    cases e
    obtain ⟨v, rfl, r1⟩ := relQs1 r
    obtain ⟨l, vs, rfl, hl, ra⟩ := RelP.tup (show RelP M H v (.tuple ds) from r1)
    exact ⟨_, ds.length, rfl, .inr ⟨vs, SqT.of (w.ex _ _ hl), ra.length.symm⟩, p.now w (.int _)⟩
  · rename_i t
    split at e
    · rename_i hz
      cases e
      obtain ⟨v, rfl, r1⟩ := relQs1 r
      rw [RelP.str (show RelP M H v (.str t) from r1)]
      exact ⟨_, t.length, rfl, ⟨by rw [hsz]; exact hz, rfl⟩, p.now w (.int _)⟩
    · cases e
  · rename_i ns
    cases e
    obtain ⟨v, rfl, r1⟩ := relQs1 r
    obtain ⟨l, rfl, hl⟩ := (show RelX K M H rs v (.scr ns) from r1)
    exact ⟨_, ns.length, rfl, .inl ⟨_, w.ex.seq hl, by rw [List.length_map]⟩, p.now w (.int _)⟩
  · cases e
def dLen (f : FE) : FE := dB gLen (aCons f aNil)
theorem d_len {p : Pos} (hg : Gl X "len") (hm : X.mg "len" = none) (ha : PP X G W a pa) (hst : starEach (a :: []) X.env = (false, eval a X.env) :: starEach [] X.env := by rfl) (hpl : (backTo pos (starEach [] X.env)).any (·.1) = false := by rfl) : PD X G W (.Call (.Name "len" p) [a] [] pos) (dLen pa) :=
  d_callB bs_len call_len hg hm PySem.boot_len (q_cons ha q_nil hst) (by decide) (by decide) hst hpl
/-- list -/
def gList : List Xv → Option Xv
  | [.val (.list ds)] => some (.own ds)
  | _ => none
theorem bs_list : BS K G (fun xs H Q => ∃ p ys, xs = [.ref p] ∧ (SqL K H p ys ∨ SqT K H p ys) ∧ ∀ l, H l = none → Q (.ref l) (upd H l (.lst ys))) gList := by
  intro M H rs S vs xs z WW Q w r e p
  unfold gList at e
  split at e
  · rename_i ds
    cases e
    obtain ⟨v, rfl, r1⟩ := relQs1 r
    obtain ⟨l, vs, rfl, hl, ra⟩ := (show RelP M H v (.list ds) from r1)
    exact ⟨l, vs, rfl, .inl (SqL.of hl), fun t ht => p.nlist w ra ht⟩
  · cases e
def dList (f : FE) : FE := dB gList (aCons f aNil)
theorem d_list {p : Pos} (hg : Gl X "list") (hm : X.mg "list" = none) (ha : PP X G W a pa) (hst : starEach (a :: []) X.env = (false, eval a X.env) :: starEach [] X.env := by rfl) (hpl : (backTo pos (starEach [] X.env)).any (·.1) = false := by rfl) : PD X G W (.Call (.Name "list" p) [a] [] pos) (dList pa) :=
  d_callTy bs_list call_list_of hg hm (by decide +kernel) (q_cons ha q_nil hst) (by decide) (by decide) hst hpl
/-- tuple -/
def gTuple : List Xv → Option Xv
  | [.val (.list ds)] => some (.val (.tuple ds))
  | _ => none
theorem bs_tuple : BS K G (fun xs H Q => ∃ p ys, xs = [.ref p] ∧ ((SqL K H p ys ∧ ∀ l, H l = none → Q (.ref l) (upd H l (.tup ys))) ∨ (SqT K H p ys ∧ Q (.ref p) H))) gTuple := by
  intro M H rs S vs xs z WW Q w r e p
  unfold gTuple at e
  split at e
  · rename_i ds
    cases e
    obtain ⟨v, rfl, r1⟩ := relQs1 r
    obtain ⟨l, vs, rfl, hl, ra⟩ := (show RelP M H v (.list ds) from r1)
    exact ⟨l, vs, rfl, .inl ⟨SqL.of hl, fun t ht => p.ntup w ra ht⟩⟩
  · cases e
def dTuple (f : FE) : FE := dB gTuple (aCons f aNil)
theorem d_tuple {p : Pos} (hg : Gl X "tuple") (hm : X.mg "tuple" = none) (ha : PP X G W a pa) (hst : starEach (a :: []) X.env = (false, eval a X.env) :: starEach [] X.env := by rfl) (hpl : (backTo pos (starEach [] X.env)).any (·.1) = false := by rfl) : PD X G W (.Call (.Name "tuple" p) [a] [] pos) (dTuple pa) :=
  d_callTy bs_tuple call_tuple_of hg hm (by decide +kernel) (q_cons ha q_nil hst) (by decide) (by decide) hst hpl
/-- max, min of two -/
def gMax : List Xv → Option Xv
  | [.val (.int i), .val (.int j)] => some (.val (.int (if j > i then j else i)))
  | _ => none
def gMin : List Xv → Option Xv
  | [.val (.int i), .val (.int j)] => some (.val (.int (if j < i then j else i)))
  | _ => none
theorem bs_max : BS K G (fun xs H Q => ∃ i j, xs = [.int i, .int j] ∧ Q (.int (if j > i then j else i)) H) gMax := by
  intro M H rs S vs xs z WW Q w r e p
  unfold gMax at e
  split at e
  · rename_i i j
    cases e
    obtain ⟨v, u, rfl, r1, r2⟩ := relQs2 r
    rw [RelP.int (show RelP M H v (.int i) from r1), RelP.int (show RelP M H u (.int j) from r2)]
    exact ⟨i, j, rfl, p.now w (.int _)⟩
  · cases e
theorem bs_min : BS K G (fun xs H Q => ∃ i j, xs = [.int i, .int j] ∧ Q (.int (if j < i then j else i)) H) gMin := by
  intro M H rs S vs xs z WW Q w r e p
  unfold gMin at e
  split at e
  · rename_i i j
    cases e
    obtain ⟨v, u, rfl, r1, r2⟩ := relQs2 r
    rw [RelP.int (show RelP M H v (.int i) from r1), RelP.int (show RelP M H u (.int j) from r2)]
    exact ⟨i, j, rfl, p.now w (.int _)⟩
  · cases e
def dMax (f g : FE) : FE := dB gMax (aCons f (aCons g aNil))
def dMin (f g : FE) : FE := dB gMin (aCons f (aCons g aNil))
theorem d_max {p : Pos} (hcm : X.calm = true) (hg : Gl X "max") (hm : X.mg "max" = none) (ha : PP X G W a pa) (hb : PP X G W b pb) (hst : starEach (a :: [b]) X.env = (false, eval a X.env) :: starEach [b] X.env := by rfl) (hst2 : starEach (b :: []) X.env = (false, eval b X.env) :: starEach [] X.env := by rfl) (hpl : (backTo pos (starEach [b] X.env)).any (·.1) = false := by rfl) : PD X G W (.Call (.Name "max" p) [a, b] [] pos) (dMax pa pb) :=
  d_callB bs_max (call_max2 hcm) hg hm (by decide +kernel) (q_cons ha (q_cons hb q_nil hst2) hst) (by decide) (by decide) hst hpl
theorem d_min {p : Pos} (hcm : X.calm = true) (hg : Gl X "min") (hm : X.mg "min" = none) (ha : PP X G W a pa) (hb : PP X G W b pb) (hst : starEach (a :: [b]) X.env = (false, eval a X.env) :: starEach [b] X.env := by rfl) (hst2 : starEach (b :: []) X.env = (false, eval b X.env) :: starEach [] X.env := by rfl) (hpl : (backTo pos (starEach [b] X.env)).any (·.1) = false := by rfl) : PD X G W (.Call (.Name "min" p) [a, b] [] pos) (dMin pa pb) :=
  d_callB bs_min (call_min2 hcm) hg hm (by decide +kernel) (q_cons ha (q_cons hb q_nil hst2) hst) (by decide) (by decide) hst hpl
/-- int -/
def b2i (b : Bool) : Int := if b then 1 else 0
def gInt : List Xv → Option Xv
  | [.val (.int i)] => some (.val (.int i))
  | [.val (.bool b)] => some (.val (.int (b2i b)))
  | [.val (.str a)] => if a.length ≤ 640 then (match PySem.intText? a with | some n => some (.val (.int n)) | none => none) else none
  | _ => none
def rIntAll : BR := fun xs H Q => (fun xs H Q => (∃ i, xs = [.int i] ∧ Q (.int i) H) ∨ ∃ k, xs = [.bl k] ∧ Q (.int (if k then 1 else 0)) H) xs H Q ∨ (fun xs H Q => ∃ a n, xs = [.str a] ∧ PySem.intText? a = some n ∧ a.length ≤ 640 ∧ Q (.int n) H) xs H Q
theorem CallR.or2 {f : Value} {r r' : BR} (h : CallR X f r) (h' : CallR X f r') : CallR X f (fun xs H Q => r xs H Q ∨ r' xs H Q) := fun pins s σ H xs us Q I rx q => q.elim (h pins s σ H xs us Q I rx) (h' pins s σ H xs us Q I rx)
theorem bs_int : BS K G rIntAll gInt := by
  intro M H rs S vs xs z WW Q w r e p
  unfold gInt at e
  split at e
  · rename_i i
    cases e
    obtain ⟨v, rfl, r1⟩ := relQs1 r
    rw [RelP.int (show RelP M H v (.int i) from r1)]
    exact .inl (.inl ⟨i, rfl, p.now w (.int _)⟩)
  · rename_i i
    cases e
    obtain ⟨v, rfl, r1⟩ := relQs1 r
    rw [RelP.bl (show RelP M H v (.bool i) from r1)]
    exact .inl (.inr ⟨i, rfl, p.now w (.int _)⟩)
  · rename_i t
    split at e
    · rename_i hz
      split at e
      · rename_i n hn
        cases e
        obtain ⟨v, rfl, r1⟩ := relQs1 r
        rw [RelP.str (show RelP M H v (.str t) from r1)]
        exact .inr ⟨t, n, rfl, hn, hz, p.now w (.int _)⟩
      · cases e
    · cases e
  · cases e
def dInt (f : FE) : FE := dB gInt (aCons f aNil)
theorem d_toint {p : Pos} (hg : Gl X "int") (hm : X.mg "int" = none) (ha : PP X G W a pa) (hst : starEach (a :: []) X.env = (false, eval a X.env) :: starEach [] X.env := by rfl) (hpl : (backTo pos (starEach [] X.env)).any (·.1) = false := by rfl) : PD X G W (.Call (.Name "int" p) [a] [] pos) (dInt pa) :=
  d_callTy bs_int (CallR.or2 call_int1 call_int_str) hg hm (by decide +kernel) (q_cons ha q_nil hst) (by decide) (by decide) hst hpl
/-- str of an int -/
def gStr : List Xv → Option Xv
  | [.val (.int i)] => if i.natAbs < 2 ^ 100 then some (.val (.str (toString i))) else none
  | _ => none
theorem bs_str : BS K G (fun xs H Q => ∃ i : Int, xs = [.int i] ∧ i.natAbs.log2 < 1920 ∧ Q (.str (toString i)) H) gStr := by
  intro M H rs S vs xs z WW Q w r e p
  unfold gStr at e
  split at e
  · rename_i i
    split at e
    · rename_i hz
      cases e
      obtain ⟨v, rfl, r1⟩ := relQs1 r
      rw [RelP.int (show RelP M H v (.int i) from r1)]
      refine ⟨i, rfl, ?_, p.now w (.str _)⟩
      by_cases h0 : i.natAbs = 0
      · rw [h0]; decide
      · exact Nat.lt_trans ((Nat.log2_lt h0).mpr hz) (by decide)
    · cases e
  · cases e
def dStr (f : FE) : FE := dB gStr (aCons f aNil)
theorem d_tostr {p : Pos} (hg : Gl X "str") (hm : X.mg "str" = none) (ha : PP X G W a pa) (hst : starEach (a :: []) X.env = (false, eval a X.env) :: starEach [] X.env := by rfl) (hpl : (backTo pos (starEach [] X.env)).any (·.1) = false := by rfl) : PD X G W (.Call (.Name "str" p) [a] [] pos) (dStr pa) :=
  d_callTy bs_str call_str_int hg hm (by decide +kernel) (q_cons ha q_nil hst) (by decide) (by decide) hst hpl
end
end Pk
/-! Pk, part 4: statements. -/
namespace Pk
open PySem L2 PySem.Spec PyProof.Rows

inductive OS where
  | bad
  | nx (τ : Sl) (S : List RS)
  | rt (x : Xv) (S : List RS)
  | bk (τ : Sl) (S : List RS)
  | ct (τ : Sl) (S : List RS)
  | ex (c : Nat) (τ : Sl) (S : List RS)
abbrev FS := Sl → List RS → OS
section
variable (G : Gx) (K : PySem.W.Frag) (W : WX) (B : Base) (M0 : Hp)
def PostS (o : OS) (D : Ends) : Prop := match o with
  | .bad => False
  | .nx τ S => ∀ σ M H rs, Same M0 M → Wd G.C M H rs S → Slots K B M H rs σ τ → D.nx σ H
  | .bk τ S => ∀ σ M H rs, Same M0 M → Wd G.C M H rs S → Slots K B M H rs σ τ → D.bk σ H
  | .ct τ S => ∀ σ M H rs, Same M0 M → Wd G.C M H rs S → Slots K B M H rs σ τ → D.ct σ H
  | .rt x S => ∀ v M H rs, Same M0 M → Go B.M B.H B.rs M H rs → Wd G.C M H rs S → RelX K M H rs v x → Frs B.H v x → D.rt v H
  | .ex c τ S => ∀ σ M H rs, Same M0 M → Wd G.C M H rs S → Slots K B M H rs σ τ → W (.ref (G.ca c)) none σ H
end
theorem PostS.mono {G : Gx} {K : PySem.W.Frag} {W : WX} {B : Base} {M0 M1 : Hp} {o : OS} {D : Ends} (e : Same M0 M1) (h : PostS G K W B M0 o D) : PostS G K W B M1 o D := by
  cases o with
  | bad => exact h
  | nx τ S => exact fun σ M H rs q => h σ M H rs (e.trans q)
  | bk τ S => exact fun σ M H rs q => h σ M H rs (e.trans q)
  | ct τ S => exact fun σ M H rs q => h σ M H rs (e.trans q)
  | rt x S => exact fun σ M H rs q => h σ M H rs (e.trans q)
  | ex c τ S => exact fun σ M H rs q => h σ M H rs (e.trans q)
def bindS {α : Type} (o : Out α) (τ : Sl) (k : α → List RS → OS) : OS := match o with
  | .bad => .bad
  | .ok x S => k x S
  | .ex c S => .ex c τ S
def tS (K : PySem.W.Frag) (G : Gx) (W : WX) (f : FS) : TS := fun D σ H => ∃ B M rs S τ, Wd G.C M H rs S ∧ Slots K B M H rs σ τ ∧ PostS G K W B M (f τ S) D
def PSt (X : Cx) (G : Gx) (W : WX) (st : Stmt) (f : FS) : Prop := PS X st (tS X.K G W f)
def PBl (X : Cx) (G : Gx) (W : WX) (st : List Stmt) (f : FS) : Prop := PSs X st (tS X.K G W f)

section
variable {X : Cx} {G : Gx} {W : WX} {K : PySem.W.Frag} {e a b c : Expr} {es rest : List Expr} {pos : Pos} {fe fa fb fc pa pb pc : FE} {ta tb tc : FT} {ga gb : FA} {fs gs : FS} {st : Stmt} {sts sus : List Stmt}
theorem s_bind {α ν : Type} {R1 : Base → Hp → Hp → Hp → List Rk → ν → α → Prop} {f : Sl → List RS → Out α} {g : Sl → α → List RS → OS} {σ : L2.St} {H : Hp} {D : Ends} {R : ν → Hp → Prop}
    (h : tS K G W (fun τ S => bindS (f τ S) τ (g τ)) D σ H)
    (k : ∀ B M rs τ x S1 v M1 H1 rs1, Go M H rs M1 H1 rs1 → Wd G.C M1 H1 rs1 S1 → Slots K B M1 H1 rs1 σ τ → Slots K B M H rs σ τ → R1 B H M1 H1 rs1 v x → PostS G K W B M1 (g τ x S1) D → R v H1) : rOf K G W R1 f σ H R := by
  obtain ⟨B, M, rs, S, τ, w, s, p⟩ := h
  refine ⟨B, M, rs, S, τ, w, s, ?_⟩
  have p : PostS G K W B M (bindS (f τ S) τ (g τ)) D := p
  cases q : f τ S with
  | bad => rw [q] at p; exact p
  | ok x S' => rw [q] at p; exact fun v M' H' rs' go wd rel => k B M rs τ x S' v M' H' rs' go wd (s.goes w go) s rel (PostS.mono go.m p)
  | ex c S' => rw [q] at p; exact fun M' H' rs' go wd => p σ M' H' rs' go.m wd (s.goes w go)

/-! ### slots stored -/
def brwNot : Xv → Bool
  | .brw _ => false
  | _ => true
theorem set_inv {τ : Sl} {k i : Nat} {x y : Xv} (h : (τ.set k (some x))[i]? = some (some y)) : (i = k ∧ y = x) ∨ (i ≠ k ∧ τ[i]? = some (some y)) := by
  by_cases e : k = i
  · subst e
    by_cases hk : k < τ.length
    · rw [List.getElem?_set_self hk] at h
      exact .inl ⟨rfl, (Option.some.inj (Option.some.inj h)).symm⟩
    · rw [List.getElem?_eq_none (by rw [List.length_set]; omega)] at h
      cases h
  · rw [List.getElem?_set_ne e] at h
    exact .inr ⟨fun z => e z.symm, h⟩
theorem Slots.set {B : Base} {M H : Hp} {rs : List Rk} {σ : L2.St} {τ : Sl} {k : Nat} {v : V} {x : Xv} (s : Slots K B M H rs σ τ) (hk : k < τ.length) (r : RelX K M H rs v x) (hb : brwNot x = true)
    (fr : Frs B.H v x) (ap : ∀ ds l, x = .own ds → v = .ref l → ∀ (i : Nat) (y : List D), τ[i]? = some (some (Xv.own y)) → σ[i]? ≠ some (some (V.ref l))) : Slots K B M H rs (σ.set k (some v)) (τ.set k (some x)) where
  ln := by rw [List.length_set, List.length_set]; exact s.ln
  at_ := fun i y e => by
    rcases set_inv e with ⟨rfl, rfl⟩ | ⟨n, f1⟩
    · exact ⟨v, by rw [List.getElem?_set_self (by rw [s.ln]; exact hk)], r⟩
    · obtain ⟨u, h1, h2⟩ := s.at_ i y f1
      exact ⟨u, by rw [List.getElem?_set_ne (fun z => n z.symm)]; exact h1, h2⟩
  ap := fun i j y z n e1 e2 => by
    rcases set_inv e1 with ⟨rfl, rfl⟩ | ⟨n1, f1⟩
    · rcases set_inv e2 with ⟨q2, _⟩ | ⟨n2, f2⟩
      · exact absurd q2.symm n
      · rw [List.getElem?_set_self (by rw [s.ln]; exact hk), List.getElem?_set_ne (fun z => n2 z.symm)]
        obtain ⟨l, vs, rfl, _⟩ := r
        exact fun z => ap _ l rfl rfl j _ f2 z.symm
    · rcases set_inv e2 with ⟨rfl, rfl⟩ | ⟨n2, f2⟩
      · rw [List.getElem?_set_self (by rw [s.ln]; exact hk), List.getElem?_set_ne (fun z => n1 z.symm)]
        obtain ⟨l, vs, rfl, _⟩ := r
        exact fun z => ap _ l rfl rfl i _ f1 z
      · rw [List.getElem?_set_ne (fun z => n1 z.symm), List.getElem?_set_ne (fun z => n2 z.symm)]
        exact s.ap i j y z n f1 f2
  fr := fun i y l e1 e2 => by
    rcases set_inv e1 with ⟨rfl, rfl⟩ | ⟨n1, f1⟩
    · rw [List.getElem?_set_self (by rw [s.ln]; exact hk)] at e2
      cases e2
      exact fr _ l rfl rfl
    · rw [List.getElem?_set_ne (fun z => n1 z.symm)] at e2
      exact s.fr i y l f1 e2
  br := fun i y l e1 e2 => by
    rcases set_inv e1 with ⟨rfl, rfl⟩ | ⟨n1, f1⟩
    · cases hb
    · rw [List.getElem?_set_ne (fun z => n1 z.symm)] at e2
      exact s.br i y l f1 e2
  go := s.go
/-- a value that has just come -/
theorem Slots.put {C : Addr} {B : Base} {M H M1 H1 : Hp} {rs rs1 : List Rk} {S1 : List RS} {σ : L2.St} {τ : Sl} {k : Nat} {v : V} {x : Xv} (s0 : Slots K B M H rs σ τ) (s : Slots K B M1 H1 rs1 σ τ) (hk : k < τ.length) (r : RelX K M1 H1 rs1 v x) (hb : brwNot x = true)
    (fr : Frs H v x) : Slots K B M1 H1 rs1 (σ.set k (some v)) (τ.set k (some x)) := by
  refine s.set hk r hb (fun ds l e1 e2 => ?_) (fun ds l e1 e2 i y e3 e4 => ?_)
  · exact s0.go.back (fr ds l e1 e2)
  · obtain ⟨u, h1, h2⟩ := s0.at_ i _ e3
    rw [h1] at e4
    cases e4
    obtain ⟨l', vs, e5, hl, _⟩ := h2
    cases e5
    rw [fr ds l e1 e2] at hl
    cases hl

/-! ### plain statements -/
def sNil : FS := fun τ S => .nx τ S
def sSeq (f g : FS) : FS := fun τ S => match f τ S with | .nx τ' S' => g τ' S' | o => o
theorem b_nil : PBl X G W [] sNil := by
  refine PSs.imp pss_nil fun D σ H h => ?_
  obtain ⟨B, M, rs, S, τ, w, s, p⟩ := h
  exact p σ M H rs (Same.refl M) w s
theorem b_cons (h1 : PSt X G W st fs) (h2 : PBl X G W sts gs) : PBl X G W (st :: sts) (sSeq fs gs) := by
  refine PSs.imp (pss_cons h1 h2) fun D σ H h => ?_
  obtain ⟨B, M, rs, S, τ, w, s, p⟩ := h
  refine ⟨B, M, rs, S, τ, w, s, ?_⟩
  unfold sSeq at p
  cases q : fs τ S with
  | nx τ' S' =>
    rw [q] at p
    exact fun σ' M' H' rs' e w' s' => ⟨B, M', rs', S', τ', w', s', p.mono e⟩
  | bad => rw [q] at p; exact p
  | bk τ' S' => rw [q] at p; exact p
  | ct τ' S' => rw [q] at p; exact p
  | rt τ' S' => rw [q] at p; exact p
  | ex c τ' S' => rw [q] at p; exact p
theorem b_one (h1 : PSt X G W st fs) : PBl X G W [st] fs := pss_one h1
/-- the list in slot k is never changed any more -/
def sFrz (k : Nat) (g : FS) : FS := fun τ S => match τ[k]? with
  | some (some (.own ds)) => g (τ.set k (some (.val (.list ds)))) S
  | _ => g τ S
theorem frz_S {σ : L2.St} {H : Hp} {D : Ends} {k : Nat} (h : tS K G W (sFrz k fs) D σ H) : tS K G W fs D σ H := by
  obtain ⟨B, M, rs, S, τ, w, s, p⟩ := h
  unfold sFrz at p
  split at p
  · rename_i ds e
    obtain ⟨v, hv, l, vs, rfl, hl, n, ra⟩ := s.at_ k _ e
    have hk : k < τ.length := (List.getElem?_eq_some_iff.mp e).1
    have hB := s.fr k ds l e hv
    refine ⟨B, upd M l (.lst vs), rs, S, _, w.frz hl n, ?_, p.mono (same_upd n)⟩
    have key : ∀ i x v, i ≠ k → τ[i]? = some (some x) → σ[i]? = some (some v) → RelX K M H rs v x → RelX K (upd M l (.lst vs)) H rs v x := by
      intro i x v ne e1 e2 r
      have s2 := same_upd (o := .lst vs) n
      cases x with
      | val d => exact Rp.mono s2 r
      | own ds' =>
        obtain ⟨l', vs', rfl, hl', n', ra'⟩ := r
        refine ⟨l', vs', rfl, hl', ?_, ra'.mono s2⟩
        rw [upd_ne (fun z => s.ap i k ds' ds ne e1 e (by rw [e2, hv, z]))]
        exact n'
      | brw ds' =>
        obtain ⟨l', vs', rfl, hl', n', ra'⟩ := r
        refine ⟨l', vs', rfl, hl', ?_, ra'.mono s2⟩
        rw [upd_ne (fun z => s.br i ds' l' e1 e2 (by rw [z]; exact hB))]
        exact n'
      | scr ns =>
        obtain ⟨a, q1, q2⟩ := r
        exact ⟨a, q1, s2.seq q2⟩
      | rack i => exact r
      | pr i ds' =>
        obtain ⟨r, t, l', vs', q1, q2, q3, q4, q5⟩ := r
        exact ⟨r, t, l', vs', q1, q2, s2 _ _ q3, s2 _ _ q4, q5.mono s2⟩
    refine ⟨by rw [List.length_set]; exact s.ln, fun i x e1 => ?_, fun i j x y ne e1 e2 => ?_, fun i x l' e1 e2 => ?_, fun i x l' e1 e2 => ?_, s.go.frz hB n⟩
    · rcases set_inv e1 with ⟨rfl, rfl⟩ | ⟨ne, f1⟩
      · exact ⟨_, hv, .lst upd_same (ra.mono (same_upd n))⟩
      · obtain ⟨v, h1, h2⟩ := s.at_ i x f1
        exact ⟨v, h1, key i x v ne f1 h1 h2⟩
    · rcases set_inv e1 with ⟨rfl, q⟩ | ⟨ne1, f1⟩
      · cases q
      · rcases set_inv e2 with ⟨rfl, q⟩ | ⟨ne2, f2⟩
        · cases q
        · exact s.ap i j x y ne f1 f2
    · rcases set_inv e1 with ⟨rfl, q⟩ | ⟨ne1, f1⟩
      · cases q
      · exact s.fr i x l' f1 e2
    · rcases set_inv e1 with ⟨rfl, q⟩ | ⟨ne1, f1⟩
      · cases q
      · exact s.br i x l' f1 e2
  · exact ⟨B, M, rs, S, τ, w, s, p⟩
theorem b_frz (k : Nat) (h : PBl X G W sts fs) : PBl X G W sts (sFrz k fs) := PSs.imp h fun _ _ _ => frz_S
theorem s_frz (k : Nat) (h : PSt X G W st fs) : PSt X G W st (sFrz k fs) := PS.imp h fun _ _ _ => frz_S
/-- x = e -/
def sSet (k : Nat) (f : FE) : FS := fun τ S => bindS (f τ S) τ fun x S1 => if k < τ.length ∧ brwNot x = true then .nx (τ.set k (some x)) S1 else .bad
theorem asg_S {σ : L2.St} {H : Hp} {D : Ends} {k : Nat} (h : tS K G W (sSet k fe) D σ H) : tAsg (tE K G W fe) (gName k) D σ H := by
  refine s_bind (R1 := fun _ H => RE K H) h fun B M rs τ x S1 v M1 H1 rs1 go1 w1 s1 s0 r1 q => ?_
  by_cases hk : k < τ.length ∧ brwNot x = true
  · rw [if_pos hk] at q
    exact q _ M1 H1 rs1 (Same.refl _) w1 (Slots.put (C := G.C) (S1 := S1) s0 s1 hk.1 r1.1 hk.2 r1.2)
  · rw [if_neg hk] at q
    exact q.elim
theorem s_set (k : Nat) {x : Str} {p' spos : Pos} (hN : X.N.Nodup) (he : PD X G W e fe) (hi : X.N[k]? = some x := by rfl) (hx : Loc X.env.scope x := by first | exact Or.inl rfl | exact Or.inr rfl) (hs : swapsWith e (some (.Name x p')) spos.line X.env = pure false := by rfl)
    (hf : X.fn x = true ∨ X.env.scope.names.lookup x = some .local := by first | exact .inl rfl | exact .inr rfl) : PSt X G W (.Assign [.Name x p'] e spos) (sSet k fe) :=
  PS.imp (ps_set hN hi hx he hs hf) fun _ _ _ => asg_S
/-- return -/
def sRet (f : FE) : FS := fun τ S => bindS (f τ S) τ fun x S1 => if brwNot x = true then .rt x S1 else .bad
def sRetV (k : Nat) : FS := fun τ S => match τ[k]? with
  | some (some x) => if brwNot x = true then .rt x S else .bad
  | _ => .bad
def sRetN : FS := fun _ S => .rt (.val .none) S
theorem s_ret (he : PD X G W e fe) : PSt X G W (.Return (some e) pos) (sRet fe) := by
  refine PS.imp (ps_ret he) fun D σ H h => ?_
  refine s_bind (R1 := fun _ H => RE X.K H) h fun B M rs τ x S1 v M1 H1 rs1 go1 w1 s1 s0 r1 q => ?_
  by_cases hb : brwNot x = true
  · rw [if_pos hb] at q
    exact q v M1 H1 rs1 (Same.refl _) s1.go w1 r1.1 (fun ds l e1 e2 => s0.go.back (r1.2 ds l e1 e2))
  · rw [if_neg hb] at q
    exact q.elim
theorem s_retv (k : Nat) {x : Str} {p : Pos} (hN : X.N[k]? = some x := by rfl) (hv : Vis X.env.scope x := by first | exact Or.inl rfl | exact Or.inr (Or.inl rfl) | exact Or.inr (Or.inr rfl)) (hd : (x == ("__debug__" : Str)) = false := by decide)
    (hcd : (x == ("__classdict__" : Str)) = false := by decide) : PSt X G W (.Return (some (.Name x p)) pos) (sRetV k) := by
  refine PS.imp (ps_ret (pe_var (i := k) hN hv hd hcd)) fun D σ H h => ?_
  obtain ⟨B, M, rs, S, τ, w, s, p⟩ := h
  unfold sRetV at p
  split at p
  · rename_i x e
    split at p
    · obtain ⟨v, hv, r⟩ := s.at_ k x e
      exact ⟨v, hv, p v M H rs (Same.refl _) s.go w r fun ds l e1 e2 => by subst e1; subst e2; exact s.fr k ds l e hv⟩
    · exact p.elim
  · exact p.elim
theorem s_retn : PSt X G W (.Return none pos) sRetN := by
  refine PS.imp ps_retN fun D σ H h => ?_
  obtain ⟨B, M, rs, S, τ, w, s, p⟩ := h
  exact p .non M H rs (Same.refl _) s.go w .non fun _ _ q _ => nomatch q
/-- an expression alone -/
def sExp (f : FE) : FS := fun τ S => bindS (f τ S) τ fun _ S1 => .nx τ S1
theorem s_exp (he : PD X G W e fe) (hs : swapsWith e none pos.line X.env = pure false := by rfl) : PSt X G W (.Expr e pos) (sExp fe) := by
  refine PS.imp (ps_expr he hs) fun D σ H h => ?_
  exact s_bind (R1 := fun _ H => RE X.K H) h fun B M rs τ x S1 v M1 H1 rs1 go1 w1 s1 s0 r1 q => q σ M1 H1 rs1 (Same.refl _) w1 s1
/-- if -/
def sIf (t : FT) (f g : FS) : FS := fun τ S => bindS (t τ S) τ fun b S1 => if b = true then f τ S1 else g τ S1
theorem s_if (hc : PTt X G W c tc) (ha : PBl X G W sts fs) (hb : PBl X G W sus gs) : PSt X G W (.If c sts sus pos) (sIf tc fs gs) := by
  refine PS.imp (ps_if hc ha hb) fun D σ H h => ?_
  refine s_bind (R1 := fun _ _ => RB) h fun B M rs τ x S1 v M1 H1 rs1 go1 w1 s1 s0 r1 q => ?_
  obtain rfl : v = x := r1
  cases v with
  | true => exact ⟨B, M1, rs1, S1, τ, w1, s1, q⟩
  | false => exact ⟨B, M1, rs1, S1, τ, w1, s1, q⟩
def sBrk : FS := fun τ S => .bk τ S
def sPass : FS := fun τ S => .nx τ S
theorem s_brk : PSt X G W (.Break pos) sBrk := by
  refine PS.imp ps_break fun D σ H h => ?_
  obtain ⟨B, M, rs, S, τ, w, s, p⟩ := h
  exact p σ M H rs (Same.refl _) w s
/-! ### own lists changed -/
theorem Slots.chg {C : Addr} {B : Base} {M H : Hp} {rs : List Rk} {S : List RS} {σ : L2.St} {τ : Sl} {k : Nat} {l : Addr} {ds ds' : List D} {vs ws : List V} (w : Wd C M H rs S) (s : Slots K B M H rs σ τ) (e : τ[k]? = some (some (.own ds))) (hv : σ[k]? = some (some (.ref l)))
    (hl : H l = some (.lst vs)) (n : M l = none) (ra : RpA M ws ds') : Slots K B M (upd H l (.lst ws)) rs σ (τ.set k (some (.own ds'))) := by
  have hk : k < τ.length := (List.getElem?_eq_some_iff.mp e).1
  have hB := s.fr k ds l e hv
  refine ⟨by rw [List.length_set]; exact s.ln, fun i x e1 => ?_, fun i j x y ne e1 e2 => ?_, fun i x l' e1 e2 => ?_, fun i x l' e1 e2 => ?_, s.go.set hB⟩
  · rcases set_inv e1 with ⟨rfl, rfl⟩ | ⟨ne, f1⟩
    · exact ⟨_, hv, l, ws, rfl, upd_same, n, ra⟩
    · obtain ⟨v, h1, h2⟩ := s.at_ i x f1
      refine ⟨v, h1, ?_⟩
      cases x with
      | val d => exact h2
      | own ds2 =>
        obtain ⟨l', vs', rfl, hl', n', ra'⟩ := h2
        exact ⟨l', vs', rfl, by rw [upd_ne (fun z => s.ap i k ds2 ds ne f1 e (by rw [h1, hv, z]))]; exact hl', n', ra'⟩
      | brw ds2 =>
        obtain ⟨l', vs', rfl, hl', n', ra'⟩ := h2
        exact ⟨l', vs', rfl, by rw [upd_ne (fun z => s.br i ds2 l' f1 h1 (by rw [z]; exact hB))]; exact hl', n', ra'⟩
      | scr ns => exact h2
      | rack i => exact h2
      | pr i ds2 => exact h2
  · rcases set_inv e1 with ⟨rfl, q⟩ | ⟨ne1, f1⟩
    · rcases set_inv e2 with ⟨q2, _⟩ | ⟨ne2, f2⟩
      · exact absurd q2.symm ne
      · exact s.ap i j ds y ne e f2
    · rcases set_inv e2 with ⟨q3, _⟩ | ⟨ne2, f2⟩
      · subst q3; exact s.ap i j x ds ne f1 e
      · exact s.ap i j x y ne f1 f2
  · rcases set_inv e1 with ⟨rfl, q⟩ | ⟨ne1, f1⟩
    · exact s.fr i ds l' e e2
    · exact s.fr i x l' f1 e2
  · rcases set_inv e1 with ⟨rfl, q⟩ | ⟨ne1, f1⟩
    · cases q
    · exact s.br i x l' f1 e2
/-- x.append(e) -/
def sApp (k : Nat) (f : FE) : FS := fun τ S => match τ[k]? with
  | some (some (.own ds)) => bindS (f τ S) τ fun x S1 => match x with | .val d => if ds.length < 16777216 then .nx (τ.set k (some (.own (ds ++ [d])))) S1 else .bad | _ => .bad
  | _ => .bad
theorem s_app (k : Nat) {x : Str} {p apos cpos : Pos} (he : PD X G W e fe) (hN : X.N[k]? = some x := by rfl) (hv : Vis X.env.scope x := by first | exact Or.inl rfl | exact Or.inr (Or.inl rfl) | exact Or.inr (Or.inr rfl)) (hd : (x == ("__debug__" : Str)) = false := by decide)
    (hcd : (x == ("__classdict__" : Str)) = false := by decide) (hm : PE X (.Call (.Attribute (.Name x p) "append" apos) [e] [] cpos) (tBM X.K "list" rAppend (tVar k) (tCons (tE X.K G W fe) tNil)))
    (hs : swapsWith (.Call (.Attribute (.Name x p) "append" apos) [e] [] cpos) none pos.line X.env = pure false := by rfl) :
    PSt X G W (.Expr (.Call (.Attribute (.Name x p) "append" apos) [e] [] cpos) pos) (sApp k fe) := by
  refine PS.imp (ps_expr hm hs) fun D σ H h => ?_
  obtain ⟨B, M, rs, S, τ, w, s, p⟩ := h
  unfold sApp at p
  split at p
  · rename_i ds e
    obtain ⟨v, hv, l, vs, rfl, hl, n, ra⟩ := s.at_ k _ e
    refine ⟨_, hv, Or.inl ⟨rfl, _, Or.inl (Or.inl hl)⟩, ?_⟩
    have h : tS X.K G W (fun τ S => bindS (fe τ S) τ fun x S1 => match x with | .val d => if ds.length < 16777216 then .nx (τ.set k (some (.own (ds ++ [d])))) S1 else .bad | _ => .bad) D σ H := ⟨B, M, rs, S, τ, w, s, p⟩
    show tE X.K G W fe σ H _
    unfold bindS at p
    refine ⟨B, M, rs, S, τ, w, s, ?_⟩
    cases q : fe τ S with
    | bad => rw [q] at p; exact p.elim
    | ex c S' => rw [q] at p; exact fun M' H' rs' go wd => p σ M' H' rs' go.m wd (s.goes w go)
    | ok x S1 =>
      rw [q] at p
      intro u M1 H1 rs1 go1 w1 r1
      dsimp only at p
      split at p
      · rename_i d
        split at p
        · rename_i hz
          have s1 := s.goes w go1
          have hl1 := go1.fr l _ hl (w.nfoot hl)
          have n1 := go1.nw l (by rw [hl]; simp) n
          refine ⟨l, vs, u, rfl, rfl, hl1, by rw [ra.length, sizeLine_eq]; exact hz, ?_⟩
          exact p σ M1 _ rs1 go1.m (w1.set hl1 n1) (Slots.chg w1 s1 e hv hl1 n1 ((ra.mono go1.m).snoc r1.1))
        · exact p.elim
      · exact p.elim
  · exact p.elim
end
end Pk
/-! Pk, part 5: what is walked, loops, comprehensions. -/
namespace Pk
open PySem L2 PySem.Spec PyProof.Rows

/-! ### what is walked -/
structure ItS (K : PySem.W.Frag) (G : Gx) (B : Base) (M1 : Hp) (J : It) (ds : List D) : Prop where
  stop : ∀ M H rs S σ τ, Same M1 M → Wd G.C M H rs S → Slots K B M H rs σ τ → J.stop ds.length H
  turn : ∀ i d, ds[i]? = some d → ∀ M H rs S σ τ, Same M1 M → Wd G.C M H rs S → Slots K B M H rs σ τ → J.go i H ∧ ∀ x H', J.yld i H x H' → ∃ M', Go M H rs M' H' rs ∧ Wd G.C M' H' rs S ∧ Rp M' x d
abbrev FI := Sl → List RS → Out (List D)
abbrev RIt (K : PySem.W.Frag) (G : Gx) : Base → Hp → Hp → Hp → List Rk → It → List D → Prop := fun B _ M' _ _ J ds => ItS K G B M' J ds
def tI (K : PySem.W.Frag) (G : Gx) (W : WX) (f : FI) : TI := rOf K G W (RIt K G) f
def PIt (X : Cx) (G : Gx) (W : WX) (tg e : Expr) (f : FI) : Prop := PI X tg e (tI X.K G W f)
theorem PI.imp {X : Cx} {tg e : Expr} {t t' : TI} (h : PI X tg e t) (k : ∀ σ H Q, t' σ H Q → t σ H Q) : PI X tg e t' := ⟨fun pins s σ H Q I q => h.run pins s σ H Q I (k _ _ _ q)⟩
section
variable {X : Cx} {G : Gx} {W : WX} {K : PySem.W.Frag} {e a b c tg : Expr} {es rest : List Expr} {pos : Pos} {fe fa fb fc pa pb pc : FE} {ta tb tc : FT} {ga gb : FA} {fs gs : FS} {st : Stmt} {sts sus : List Stmt} {fi : FI}
theorem its_sq {B : Base} {M1 : Hp} {l : Addr} {vs : List V} {ds : List D} (ra : RpA M1 vs ds) (h : ∀ M H rs S σ τ, Same M1 M → Wd G.C M H rs S → Slots K B M H rs σ τ → SqL K H l vs) : ItS K G B M1 (Itl K l) ds where
  stop := fun M H rs S σ τ e w s => ⟨vs, h M H rs S σ τ e w s, by rw [ra.length]; exact Nat.le_refl _⟩
  turn := fun i d hd M H rs S σ τ e w s => by
    obtain ⟨v, hv, rv⟩ := ra.get hd
    have q := h M H rs S σ τ e w s
    exact ⟨⟨vs, v, q, hv⟩, fun x H' y => by
      obtain ⟨rfl, y⟩ := y
      have e2 := (y vs q).symm.trans hv
      cases e2
      exact ⟨M, Go.refl _ _ _, w, rv.mono e⟩⟩
/-- the items of a list that has just come (it is never changed) -/
def iE (f : FE) : FI := fun τ S => (f τ S).bind fun x S1 => match x with
  | .val (.list ds) => .ok ds S1
  | .own ds => .ok ds S1
  | .scr ns => .ok (ns.map .int) S1
  | _ => .bad
theorem i_list (h : PD X G W e fe) : PIt X G W tg e (iE fe) := by
  refine PI.imp (pi_list h) fun σ H R h => ?_
  refine r_bind (R1 := fun _ H => RE X.K H) h fun B M rs τ x S1 v M1 H1 rs1 go1 w1 s1 r1 q => ?_
  split at q
  · rename_i ds
    obtain ⟨l, vs, rfl, hl, ra⟩ := Rp.lstI (show Rp M1 v (.list ds) from r1.1)
    exact ⟨l, rfl, ⟨vs, SqL.of (w1.ex _ _ hl)⟩, q _ M1 H1 rs1 go1 w1 (its_sq ra fun M H rs S σ τ e w s => SqL.of (w.ex _ _ (e _ _ hl)))⟩
  · rename_i ds
    obtain ⟨⟨l, vs, rfl, hl, n, ra⟩, fr⟩ := r1
    have hn := fr ds l rfl rfl
    exact ⟨l, rfl, ⟨vs, SqL.of hl⟩, q _ (upd M1 l (.lst vs)) H1 rs1 (go1.frz hn n) (w1.frz hl n) (its_sq (ra.mono (same_upd n)) fun M H rs S σ τ e w s => SqL.of (w.ex _ _ (e _ _ upd_same)))⟩
  · rename_i ns
    obtain ⟨a, rfl, ha⟩ := (show RelX X.K M1 H1 rs1 v (.scr ns) from r1.1)
    exact ⟨a, rfl, ⟨_, w1.ex.seq ha⟩, q _ M1 H1 rs1 go1 w1 (its_sq (rpA_ints _) fun M H rs S σ τ e w s => w.ex.seq (e.seq ha))⟩
  · exact q.elim
/-- the items of a name's list -/
def iV (k : Nat) : FI := fun τ S => match τ[k]? with
  | some (some (.val (.list ds))) => .ok ds S
  | some (some (.brw ds)) => .ok ds S
  | some (some (.scr ns)) => .ok (ns.map .int) S
  | _ => .bad
theorem i_var (k : Nat) {x : Str} {p : Pos} (hN : X.N[k]? = some x := by rfl) (hv : Vis X.env.scope x := by first | exact Or.inl rfl | exact Or.inr (Or.inl rfl) | exact Or.inr (Or.inr rfl)) (hd : (x == ("__debug__" : Str)) = false := by decide)
    (hcd : (x == ("__classdict__" : Str)) = false := by decide) : PIt X G W tg (.Name x p) (iV k) := by
  refine PI.imp (pi_list (pe_var (i := k) hN hv hd hcd)) fun σ H R h => ?_
  obtain ⟨B, M, rs, S, τ, w, s, p⟩ := h
  unfold iV at p
  split at p
  · rename_i ds e
    obtain ⟨v, hv, r⟩ := s.at_ k _ e
    obtain ⟨l, vs, rfl, hl, ra⟩ := Rp.lstI (show Rp M v (.list ds) from r)
    exact ⟨_, hv, l, rfl, ⟨vs, SqL.of (w.ex _ _ hl)⟩, p _ M H rs (Go.refl _ _ _) w (its_sq ra fun M H rs S σ τ e w s => SqL.of (w.ex _ _ (e _ _ hl)))⟩
  · rename_i ds e
    obtain ⟨v, hv, l, vs, rfl, hl, n, ra⟩ := s.at_ k _ e
    have hB := s.br k ds l e hv
    have nf : l ∉ foot B.rs := fun q => by
      obtain ⟨t, e⟩ := s.go.xt
      exact w.nfoot hl (by rw [e, foot_append]; exact List.mem_append_left _ q)
    have hB2 : B.H l = some (.lst vs) := by
      cases z : B.H l with
      | none => exact absurd z hB
      | some o =>
        have := s.go.fr l o z nf
        rw [hl] at this
        exact this.symm ▸ rfl
    exact ⟨_, hv, l, rfl, ⟨vs, SqL.of hl⟩, p _ M H rs (Go.refl _ _ _) w (its_sq ra fun M H rs S σ τ e w s => SqL.of (s.go.fr l _ hB2 nf))⟩
  · rename_i ns e
    obtain ⟨v, hv, r⟩ := s.at_ k _ e
    obtain ⟨a, rfl, ha⟩ := (show RelX X.K M H rs v (.scr ns) from r)
    exact ⟨_, hv, a, rfl, ⟨_, w.ex.seq ha⟩, p _ M H rs (Go.refl _ _ _) w (its_sq (rpA_ints _) fun M H rs S σ τ e w s => w.ex.seq (e.seq ha))⟩
  · exact p.elim
/-- range -/
def rangeD (lo : Int) (n : Nat) : List D := (List.range n).map fun i => .int (lo + (i : Nat))
theorem its_rng {B : Base} {M1 : Hp} {lo : Int} {n : Nat} : ItS K G B M1 (Itr lo n) (rangeD lo n) where
  stop := fun M H rs S σ τ e w s => by
    show n ≤ _
    unfold rangeD
    simp
  turn := fun i d hd M H rs S σ τ e w s => by
    unfold rangeD at hd
    rw [List.getElem?_map] at hd
    have hi : i < n := by
      by_cases h : i < n
      · exact h
      · rw [List.getElem?_eq_none (by simp; omega)] at hd; cases hd
    rw [List.getElem?_range hi] at hd
    cases hd
    exact ⟨hi, fun x H' y => by
      obtain ⟨rfl, rfl⟩ := y
      exact ⟨M, Go.refl _ _ _, w, .int _⟩⟩
abbrev inR (j : Int) : Prop := -4611686018427387904 ≤ j ∧ j < 4611686018427387904
def iR1 (f : FA) : FI := fun τ S => (f τ S).bind fun xs S1 => match xs with
  | [.val (.int j)] => if inR j then .ok (rangeD 0 j.toNat) S1 else .bad
  | _ => .bad
def iR2 (f : FA) : FI := fun τ S => (f τ S).bind fun xs S1 => match xs with
  | [.val (.int i), .val (.int j)] => if inR i ∧ inR j then .ok (rangeD i (j - i).toNat) S1 else .bad
  | _ => .bad
def iRange1 (f : FE) : FI := iR1 (aCons f aNil)
def iRange2 (f g : FE) : FI := iR2 (aCons f (aCons g aNil))
theorem i_range1 {p : Pos} (hg : Gl X "range") (hm : X.mg "range" = none) (ha : PP X G W a pa) (hs : starEach [a] X.env = [(false, eval a X.env)] := by rfl) : PIt X G W tg (.Call (.Name "range" p) [a] [] pos) (iRange1 pa) := by
  refine PI.imp (pi_range1 hg hm (q_cons ha q_nil hs) hs) fun σ H R h => ?_
  refine r_bind (R1 := fun _ _ => RQs X.K) h fun B M rs τ xs S1 vs M1 H1 rs1 go1 w1 s1 r1 q => ?_
  split at q
  · rename_i j
    obtain ⟨v, rfl, r⟩ := relQs1 r1
    rw [RelP.int (show RelP M1 H1 v (.int j) from r)]
    by_cases hj : inR j
    · rw [if_pos hj] at q
      exact ⟨j, rfl, hj.1, hj.2, q _ M1 H1 rs1 go1 w1 its_rng⟩
    · rw [if_neg hj] at q; exact q.elim
  · exact q.elim
theorem i_range2 {p : Pos} (hg : Gl X "range") (hm : X.mg "range" = none) (ha : PP X G W a pa) (hb : PP X G W b pb) (hs : starEach [a, b] X.env = [(false, eval a X.env), (false, eval b X.env)] := by rfl) (hs2 : starEach [b] X.env = [(false, eval b X.env)] := by rfl) : PIt X G W tg (.Call (.Name "range" p) [a, b] [] pos) (iRange2 pa pb) := by
  refine PI.imp (pi_range2 hg hm (q_cons ha (q_cons hb q_nil (hs2.trans rfl)) (by rw [hs, hs2])) hs hs2) fun σ H R h => ?_
  refine r_bind (R1 := fun _ _ => RQs X.K) h fun B M rs τ xs S1 vs M1 H1 rs1 go1 w1 s1 r1 q => ?_
  split at q
  · rename_i i j
    obtain ⟨v, u, rfl, r, r'⟩ := relQs2 r1
    rw [RelP.int (show RelP M1 H1 v (.int i) from r), RelP.int (show RelP M1 H1 u (.int j) from r')]
    by_cases hj : inR i ∧ inR j
    · rw [if_pos hj] at q
      exact ⟨i, j, rfl, ⟨hj.1.1, hj.1.2, hj.2.1, hj.2.2⟩, q _ M1 H1 rs1 go1 w1 its_rng⟩
    · rw [if_neg hj] at q; exact q.elim
  · exact q.elim
/-- the signs of a text -/
def iS (f : FE) : FI := fun τ S => (f τ S).bind fun x S1 => match x with
  | .val (.str z) => .ok (z.cps.toList.map fun c => .str ⟨#[c]⟩) S1
  | _ => .bad
theorem i_str (h : PP X G W e fe) : PIt X G W tg e (iS fe) := by
  refine PI.imp (pi_str h) fun σ H R h => ?_
  refine r_bind (R1 := fun _ _ => RQ X.K) h fun B M rs τ x S1 v M1 H1 rs1 go1 w1 s1 r1 q => ?_
  split at q
  · rename_i z
    rw [RelP.str (show RelP M1 H1 v (.str z) from r1)]
    refine ⟨z, rfl, q _ M1 H1 rs1 go1 w1 ⟨fun M H rs S σ τ e w s => ?_, fun i d hd M H rs S σ τ e w s => ?_⟩⟩
    · show z.cps.size ≤ _
      simp
    · rw [List.getElem?_map, Array.getElem?_toList] at hd
      cases hc : z.cps[i]? with
      | none => rw [hc] at hd; cases hd
      | some c =>
        rw [hc] at hd
        cases hd
        refine ⟨(Array.getElem?_eq_some_iff.mp hc).1, fun x H' y => ?_⟩
        obtain ⟨rfl, c', hc', rfl⟩ := y
        rw [hc] at hc'
        cases hc'
        exact ⟨M, Go.refl _ _ _, w, .str _⟩
  · exact q.elim
/-- enumerate -/
def enumD : Nat → List D → List D
  | _, [] => []
  | i, d :: ds => .tuple [.int (i : Nat), d] :: enumD (i + 1) ds
theorem enumD_get : ∀ (ds : List D) (j i : Nat) (d : D), (enumD j ds)[i]? = some d → ∃ e, ds[i]? = some e ∧ d = .tuple [.int ((j + i : Nat) : Int), e]
  | [], j, i, d, h => by simp [enumD] at h
  | e :: ds, j, 0, d, h => by simp [enumD] at h; exact ⟨e, rfl, h.symm⟩
  | e :: ds, j, i + 1, d, h => by
    have h : (enumD (j + 1) ds)[i]? = some d := by simpa [enumD] using h
    obtain ⟨z, h1, h2⟩ := enumD_get ds (j + 1) i d h
    refine ⟨z, by simpa using h1, ?_⟩
    rw [h2]
    congr 3
    omega
theorem enumD_length : ∀ (j : Nat) (ds : List D), (enumD j ds).length = ds.length
  | _, [] => rfl
  | j, d :: ds => congrArg (· + 1) (enumD_length (j + 1) ds)
def iEn (f : FA) : FI := fun τ S => (f τ S).bind fun xs S1 => match xs with
  | [.val (.list ds)] => .ok (enumD 0 ds) S1
  | _ => .bad
def iEnum1 (f : FE) : FI := iEn (aCons f aNil)
theorem i_enum {p tpos : Pos} {elts : List Expr} {kk : Nat} (hg : Gl X "enumerate") (hm : X.mg "enumerate" = none) (ha : PD X G W a fa) (hs : starEach [a] X.env = [(false, eval a X.env)] := by rfl) : PIt X G W (.Tuple elts kk tpos) (.Call (.Name "enumerate" p) [a] [] pos) (iEnum1 fa) := by
  refine PI.imp (pi_enum hg hm (a_cons ha a_nil hs) hs) fun σ H R h => ?_
  refine r_bind (R1 := fun _ _ => RA X.K) h fun B M rs τ xs S1 vs M1 H1 rs1 go1 w1 s1 r1 q => ?_
  split at q
  · rename_i ds
    cases r1 with
    | cons r rr =>
      cases rr
      obtain ⟨l, vs, rfl, hl, ra⟩ := Rp.lstI r
      refine ⟨l, vs, rfl, SqL.of (w1.ex _ _ hl), q _ M1 H1 rs1 go1 w1 ⟨fun M H rs S σ τ e w s => ?_, fun i d hd M H rs S σ τ e w s => ?_⟩⟩
      · exact ⟨vs, SqL.of (w.ex _ _ (e _ _ hl)), by rw [enumD_length, ra.length]; exact Nat.le_refl _⟩
      · obtain ⟨d', h1, rfl⟩ := enumD_get ds 0 i d hd
        obtain ⟨v, hv, rv⟩ := ra.get h1
        have sq : SqL X.K H l vs := SqL.of (w.ex _ _ (e _ _ hl))
        refine ⟨⟨vs, v, sq, hv⟩, fun x H' y => ?_⟩
        obtain ⟨T, x', rfl, hT, rfl, y⟩ := y
        have e2 := (y vs sq).symm.trans hv
        cases e2
        refine ⟨upd M T (.tup [.int (i : Nat), v]), Go.new _ w hT, w.new _ hT, .tup upd_same (.cons ?_ (.cons ((rv.mono e).mono (same_upd (w.mnone hT))) .nil))⟩
        have e3 : ((0 + i : Nat) : Int) = (i : Int) := by omega
        rw [e3]
        exact .int _
  · exact q.elim

/-! ### targets -/
abbrev GD := D → Sl → Option Sl
def TgS (K : PySem.W.Frag) (G : Gx) (g : TG) (gd : GD) : Prop := ∀ B M H rs S σ τ v d τ' Q, Wd G.C M H rs S → Slots K B M H rs σ τ → Rp M v d → gd d τ = some τ' → (∀ σ', Slots K B M H rs σ' τ' → Q σ' H) → g v σ H Q
def gN (k : Nat) : GD := fun d τ => if k < τ.length then some (τ.set k (some (.val d))) else none
theorem tgs_name (k : Nat) : TgS K G (gName k) (gN k) := fun B M H rs S σ τ v d τ' Q w s r e h => by
  unfold gN at e
  split at e
  · rename_i hk
    cases e
    exact h _ (s.set hk r rfl (fun _ _ q _ => nomatch q) fun _ _ q _ => nomatch q)
  · cases e
def gNs : List Nat → List D → Sl → Option Sl
  | [], [], τ => some τ
  | k :: ks, d :: ds, τ => (gN k d τ).bind (gNs ks ds)
  | _, _, _ => none
def gT (ks : List Nat) : GD := fun d τ => match d with
  | .tuple ds => gNs ks ds τ
  | .list ds => gNs ks ds τ
  | _ => none
def gCons' : List Nat → TGs
  | [] => gNil
  | k :: ks => gCons (gName k) (gCons' ks)
theorem tgs_ns : ∀ (ks : List Nat) {B : Base} {M H : Hp} {rs : List Rk} {S : List RS} {σ : L2.St} {τ τ' : Sl} {vs : List V} {ds : List D} {Q : L2.St → Hp → Prop}, Wd G.C M H rs S → Slots K B M H rs σ τ → RpA M vs ds → gNs ks ds τ = some τ' → (∀ σ', Slots K B M H rs σ' τ' → Q σ' H) → gCons' ks vs σ H Q ∧ ds.length = ks.length
  | [], _, _, _, _, _, _, _, _, _, [], _, w, s, r, e, h => by cases r; cases e; exact ⟨⟨rfl, h _ s⟩, rfl⟩
  | k :: ks, B, M, H, rs, S, σ, τ, τ', vs, d :: ds, Q, w, s, r, e, h => by
    unfold gNs at e
    cases q : gN k d τ with
    | none => rw [q] at e; cases e
    | some τ1 =>
      rw [q] at e
      cases r with
      | cons rv rr =>
        rename_i v vs
        unfold gN at q
        split at q
        · rename_i hk
          cases q
          have s1 := s.set (x := .val d) hk rv rfl (fun _ _ q _ => nomatch q) (fun _ _ q _ => nomatch q)
          obtain ⟨h1, h2⟩ := tgs_ns ks w s1 rr e h
          exact ⟨⟨v, vs, rfl, h1⟩, by rw [List.length_cons, List.length_cons, h2]⟩
        · cases q
theorem tgs_tup (ks : List Nat) : TgS K G (fun v σ H Q => gTup K ks.length (gCons' ks) v σ H Q) (fun d τ => match d with | .tuple ds => gNs ks ds τ | _ => none) := fun B M H rs S σ τ v d τ' Q w s r e h => by
  dsimp only at e
  split at e
  · rename_i ds
    obtain ⟨a, vs, rfl, ha, ra⟩ := r.tupI
    obtain ⟨h1, h2⟩ := tgs_ns (K := K) (G := G) ks w s ra e h
    exact ⟨a, vs, rfl, SqT.of (w.ex _ _ ha), by rw [ra.length, h2], h1⟩
  · cases e
def gTp (ks : List Nat) : GD := fun d τ => match d with | .tuple ds => gNs ks ds τ | _ => none

/-! ### for -/
def loopS (gd : GD) (f : FS) : List D → FS
  | [], τ, S => .nx τ S
  | d :: ds, τ, S => match gd d τ with
    | none => .bad
    | some τ1 => match f τ1 S with
      | .nx τ2 S2 => loopS gd f ds τ2 S2
      | .ct τ2 S2 => loopS gd f ds τ2 S2
      | .bk τ2 S2 => .nx τ2 S2
      | o => o
def sFor (fi : FI) (gd : GD) (f : FS) : FS := fun τ S => bindS (fi τ S) τ fun ds S1 => loopS gd f ds τ S1
theorem s_for {g : TG} {gd : GD} {body : List Stmt} (hp : PassesOwn (model X.prog X.w) X.A X.env X.xe) (hc : X.calm = true) (hi : PIt X G W tg e fi) (hg : PG X tg g) (hgs : TgS X.K G g gd) (hb : PBl X G W body fs)
    (hs : ∀ x, foldedSetIterable e X.env x = pure x := by intro _; rfl) : PSt X G W (.For tg e body [] pos) (sFor fi gd fs) := by
  refine PS.imp (ps_for hp hc hi hg hb hs) fun D σ H h => ?_
  refine s_bind (R1 := RIt X.K G) h fun B M rs τ ds S1 J M1 H1 rs1 go1 w1 s1 s0 r1 q => ?_
  refine ⟨fun i m σ H => ∃ M rs S τ, Same M1 M ∧ Wd G.C M H rs S ∧ Slots X.K B M H rs σ τ ∧ m = ds.length - i ∧ i ≤ ds.length ∧ PostS G X.K W B M (loopS gd fs (ds.drop i) τ S) D,
    ⟨_, M1, rs1, S1, τ, Same.refl _, w1, s1, rfl, Nat.zero_le _, q⟩, ?_⟩
  rintro i m σ H ⟨M, rs, S, τ, e, w, s, rfl, hi, p⟩
  by_cases hlt : i < ds.length
  · have hd : ds[i]? = some ds[i] := List.getElem?_eq_getElem hlt
    obtain ⟨hgo, hy⟩ := r1.turn i _ hd M H rs S σ τ e w s
    rw [List.drop_eq_getElem_cons hlt] at p
    unfold loopS at p
    cases z : gd ds[i] τ with
    | none => rw [z] at p; exact p.elim
    | some τ1 =>
      rw [z] at p
      dsimp only at p
      refine .inr ⟨hgo, fun σ' H' => ∃ M rs S τ, Same M1 M ∧ Wd G.C M H' rs S ∧ Slots X.K B M H' rs σ' τ ∧ PostS G X.K W B M (loopS gd fs (ds.drop (i + 1)) τ S) D, fun σ' H' ⟨M, rs, S, τ, e, w, s, p⟩ => ⟨_, by omega, M, rs, S, τ, e, w, s, rfl, hlt, p⟩, fun x H' y => ?_⟩
      obtain ⟨M2, g2, w2, rx⟩ := hy x H' y
      refine hgs B M2 H' rs S σ τ x ds[i] τ1 _ w2 (s.goes w g2) rx z fun σ2 s2 => ⟨B, M2, rs, S, τ1, w2, s2, ?_⟩
      have p := p.mono g2.m
      have e2 := e.trans g2.m
      cases z2 : fs τ1 S with
      | bad => rw [z2] at p; exact p
      | nx τ2 S2 => rw [z2] at p; exact fun σ M H rs e3 w s => ⟨M, rs, S2, τ2, e2.trans e3, w, s, p.mono e3⟩
      | ct τ2 S2 => rw [z2] at p; exact fun σ M H rs e3 w s => ⟨M, rs, S2, τ2, e2.trans e3, w, s, p.mono e3⟩
      | bk τ2 S2 => rw [z2] at p; exact p
      | rt x S2 => rw [z2] at p; exact p
      | ex c τ2 S2 => rw [z2] at p; exact p
  · have e3 : i = ds.length := by omega
    subst e3
    rw [List.drop_length] at p
    exact .inl ⟨r1.stop M H rs S σ τ e w s, p σ M H rs (Same.refl _) w s⟩

/-! ### while -/
def whileS (t : FT) (f : FS) : Nat → FS
  | 0, _, _ => .bad
  | n + 1, τ, S => bindS (t τ S) τ fun b S1 => if b = true then (match f τ S1 with
      | .nx τ2 S2 => whileS t f n τ2 S2
      | .ct τ2 S2 => whileS t f n τ2 S2
      | .bk τ2 S2 => .nx τ2 S2
      | o => o) else .nx τ S1
@[irreducible] def fuel : Nat := 10 ^ 40
def sWhile (t : FT) (f : FS) : FS := fun τ S => whileS t f fuel τ S
theorem s_while {body : List Stmt} (hp : PassesOwn (model X.prog X.w) X.A X.env X.xe) (ht : PTt X G W c tc) (hb : PBl X G W body fs) : PSt X G W (.While c body [] pos) (sWhile tc fs) := by
  refine PS.imp (ps_while hp ht hb) fun D σ H h => ?_
  refine ⟨fun m σ H => tS X.K G W (whileS tc fs m) D σ H, ⟨fuel, h⟩, ?_⟩
  intro m σ H h
  cases m with
  | zero =>
    obtain ⟨B, M, rs, S, τ, w, s, p⟩ := h
    exact p.elim
  | succ m =>
    refine s_bind (R1 := fun _ _ => RB) (f := tc) (g := fun τ b S1 => if b = true then (match fs τ S1 with
      | .nx τ2 S2 => whileS tc fs m τ2 S2
      | .ct τ2 S2 => whileS tc fs m τ2 S2
      | .bk τ2 S2 => .nx τ2 S2
      | o => o) else .nx τ S1) (D := D) h fun B M rs τ x S1 v M1 H1 rs1 go1 w1 s1 s0 r1 q => ?_
    obtain rfl : v = x := r1
    cases v with
    | false => exact q σ M1 H1 rs1 (Same.refl _) w1 s1
    | true =>
      rw [if_pos rfl] at q ⊢
      refine ⟨fun σ H => tS X.K G W (whileS tc fs m) D σ H, fun σ' H' h => ⟨m, Nat.lt_succ_self _, h⟩, B, M1, rs1, S1, τ, w1, s1, ?_⟩
      cases z2 : fs τ S1 with
      | bad => rw [z2] at q; exact q
      | nx τ2 S2 => rw [z2] at q; exact fun σ M H rs e3 w s => ⟨B, M, rs, S2, τ2, w, s, PostS.mono e3 q⟩
      | ct τ2 S2 => rw [z2] at q; exact fun σ M H rs e3 w s => ⟨B, M, rs, S2, τ2, w, s, PostS.mono e3 q⟩
      | bk τ2 S2 => rw [z2] at q; exact q
      | rt x S2 => rw [z2] at q; exact q
      | ex c τ2 S2 => rw [z2] at q; exact q
end
end Pk
/-! Pk, part 6: comprehensions, calls, defs. -/
namespace Pk
open PySem L2 PySem.Spec PyProof.Rows
abbrev WF : WX := fun _ _ _ _ => False
def noEx {α : Type} (o : Out α) : Out α := match o with | .ex _ _ => .bad | o => o
def compS (k : Nat) (t : FT) (f : FE) (τ : Sl) : List D → List D → List RS → Out (List D)
  | [], acc, S => .ok acc S
  | d :: ds, acc, S => (noEx (t (τ.set k (some (.val d))) S)).bind fun b S1 => if b = true then (noEx (f (τ.set k (some (.val d))) S1)).bind fun x S2 => match x with
      | .val y => if acc.length < 16777216 then compS k t f τ ds (acc ++ [y]) S2 else .bad
      | _ => .bad
    else compS k t f τ ds acc S1
def dComp (k : Nat) (fi : FI) (t : FT) (f : FE) : FE := fun τ S => (fi τ S).bind fun ds S1 => if k < τ.length then (compS k t f (τ.set k none) ds [] S1).bind fun acc S2 => .ok (.own acc) S2 else .bad
section
variable {X : Cx} {G : Gx} {W : WX} {K : PySem.W.Frag} {e a b c tg : Expr} {es rest : List Expr} {pos : Pos} {fe fa fb fc pa pb pc : FE} {ta tb tc : FT} {ga gb : FA} {fs gs : FS} {st : Stmt} {sts sus : List Stmt} {fi : FI}
theorem setn_inv {τ : Sl} {k i : Nat} {y : Xv} (h : (τ.set k none)[i]? = some (some y)) : i ≠ k ∧ τ[i]? = some (some y) := by
  by_cases e : k = i
  · subst e
    by_cases hk : k < τ.length
    · rw [List.getElem?_set_self hk] at h; cases h
    · rw [List.getElem?_eq_none (by rw [List.length_set]; omega)] at h; cases h
  · rw [List.getElem?_set_ne e] at h
    exact ⟨fun z => e z.symm, h⟩
theorem Slots.wipe {B : Base} {M H : Hp} {rs : List Rk} {σ : L2.St} {τ : Sl} (k : Nat) (s : Slots K B M H rs σ τ) : Slots K B M H rs (σ.set k none) (τ.set k none) where
  ln := by rw [List.length_set, List.length_set]; exact s.ln
  at_ := fun i x e => by
    obtain ⟨n, e⟩ := setn_inv e
    rw [List.getElem?_set_ne (fun z => n z.symm)]
    exact s.at_ i x e
  ap := fun i j x y ne e1 e2 => by
    obtain ⟨n1, f1⟩ := setn_inv e1
    obtain ⟨n2, f2⟩ := setn_inv e2
    rw [List.getElem?_set_ne (fun z => n1 z.symm), List.getElem?_set_ne (fun z => n2 z.symm)]
    exact s.ap i j x y ne f1 f2
  fr := fun i x l e1 e2 => by
    obtain ⟨n1, f1⟩ := setn_inv e1
    rw [List.getElem?_set_ne (fun z => n1 z.symm)] at e2
    exact s.fr i x l f1 e2
  br := fun i x l e1 e2 => by
    obtain ⟨n1, f1⟩ := setn_inv e1
    rw [List.getElem?_set_ne (fun z => n1 z.symm)] at e2
    exact s.br i x l f1 e2
  go := s.go
theorem set_set_none {α : Type} (l : List (Option α)) (k : Nat) (v : α) : ((l.set k none).set k (some v)).set k none = l.set k none := by
  rw [List.set_set, List.set_set]
theorem lc_S {k : Nat} {σ : L2.St} {H : Hp} {Q : VK} (h : tE K G W (dComp k fi ta fe) σ H Q) : tLc (tI K G W fi) (gName k) (tT K G WF ta) (tE K G WF fe) [k] σ H Q := by
  have hsz : sizeLine = 16777216 := sizeLine_eq
  refine r_bind (R1 := RIt K G) h fun B M rs τ ds S1 J M1 H1 rs1 go1 w1 s1 r1 q0 => ?_
  intro Dd hD
  by_cases hk : k < τ.length
  case neg => rw [if_neg hk] at q0; exact q0.elim
  rw [if_pos hk] at q0
  have q := q0.lateE go1
  refine ⟨fun i m H' => ∃ M' rs' S' acc vs, Go M1 H1 rs1 M' H' rs' ∧ Wd G.C M' H' rs' S' ∧ H' Dd = some (.lst vs) ∧ M' Dd = none ∧ RpA M' vs acc ∧ m = ds.length - i ∧ i ≤ ds.length ∧
      Post G M1 H1 rs1 (RE K H1) (WE W σ) ((compS k ta fe (τ.set k none) (ds.drop i) acc S').bind fun acc S2 => .ok (.own acc) S2) Q,
    ⟨_, M1, rs1, S1, [], [], Go.newH _ hD, w1.newH _ hD, upd_same, w1.mnone hD, .nil, rfl, Nat.zero_le _, q⟩, ?_⟩
  rintro i m H' ⟨M', rs', S', acc, vs, g, w, hl, n, ra, rfl, hi, p⟩
  have s := s1.goes w1 g
  by_cases hlt : i < ds.length
  · have hd : ds[i]? = some ds[i] := List.getElem?_eq_getElem hlt
    obtain ⟨hgo, hy⟩ := r1.turn i _ hd M' H' rs' S' σ τ g.m w s
    rw [List.drop_eq_getElem_cons hlt] at p
    refine .inr ⟨hgo, fun H' => ∃ M' rs' S' acc vs, Go M1 H1 rs1 M' H' rs' ∧ Wd G.C M' H' rs' S' ∧ H' Dd = some (.lst vs) ∧ M' Dd = none ∧ RpA M' vs acc ∧
      Post G M1 H1 rs1 (RE K H1) (WE W σ) ((compS k ta fe (τ.set k none) (ds.drop (i + 1)) acc S').bind fun acc S2 => .ok (.own acc) S2) Q, fun H' ⟨M', rs', S', acc, vs, g, w, hl, n, ra, p⟩ => ⟨_, by omega, M', rs', S', acc, vs, g, w, hl, n, ra, rfl, hlt, p⟩, fun x H2 y => ?_⟩
    obtain ⟨M2, g2, w2, rx⟩ := hy x H2 y
    have hl2 := g2.fr Dd _ hl (w.nfoot hl)
    have n2 := g2.nw Dd (by rw [hl]; simp) n
    have sw : Slots K B M2 H2 rs' (σ.set k none) (τ.set k none) := (s.goes w g2).wipe k
    have s2 := sw.set (k := k) (v := x) (x := .val ds[i]) (by rw [List.length_set]; exact hk) rx rfl (fun _ _ q _ => nomatch q) (fun _ _ q _ => nomatch q)
    show L2.wipe _ [k] = L2.wipe σ [k] ∧ _
    refine ⟨set_set_none _ _ _, B, M2, rs', S', (τ.set k none).set k (some (.val ds[i])), w2, s2, ?_⟩
    unfold compS at p
    cases z : ta ((τ.set k none).set k (some (.val ds[i]))) S' with
    | bad => rw [z] at p; exact p.elim
    | ex c S2 => rw [z] at p; exact p.elim
    | ok b S3 =>
      rw [z] at p
      have p : Post G M1 H1 rs1 (RE K H1) (WE W σ) ((if b = true then (noEx (fe ((τ.set k none).set k (some (.val ds[i]))) S3)).bind fun x S2 => (match x with
        | .val y => if acc.length < 16777216 then compS k ta fe (τ.set k none) (ds.drop (i + 1)) (acc ++ [y]) S2 else .bad
        | _ => .bad) else compS k ta fe (τ.set k none) (ds.drop (i + 1)) acc S3).bind fun acc S2 => .ok (.own acc) S2) Q := p
      intro b' M3 H3 rs3 g3 w3 eb
      obtain rfl : b' = b := eb
      have hl3 := g3.fr Dd _ hl2 (w2.nfoot hl2)
      have n3 := g3.nw Dd (by rw [hl2]; simp) n2
      have g23 := (g.trans g2).trans g3
      cases b' with
      | false => exact ⟨M3, rs3, S3, acc, vs, g23, w3, hl3, n3, (ra.mono g2.m).mono g3.m, p⟩
      | true =>
        rw [if_pos rfl] at p
        rw [if_pos rfl]
        refine ⟨B, M3, rs3, S3, _, w3, s2.goes w2 g3, ?_⟩
        cases z2 : fe ((τ.set k none).set k (some (.val ds[i]))) S3 with
        | bad => rw [z2] at p; exact p.elim
        | ex c S2 => rw [z2] at p; exact p.elim
        | ok y S4 =>
          rw [z2] at p
          intro v M4 H4 rs4 g4 w4 ry
          cases y with
          | val d =>
            have p : Post G M1 H1 rs1 (RE K H1) (WE W σ) ((if acc.length < 16777216 then compS k ta fe (τ.set k none) (ds.drop (i + 1)) (acc ++ [d]) S4 else .bad).bind fun acc S2 => .ok (.own acc) S2) Q := p
            have hl4 := g4.fr Dd _ hl3 (w3.nfoot hl3)
            have n4 := g4.nw Dd (by rw [hl3]; simp) n3
            have ra4 := ((ra.mono g2.m).mono g3.m).mono g4.m
            by_cases hz : acc.length < 16777216
            · rw [if_pos hz] at p
              exact ⟨vs, hl4, by rw [ra.length, hsz]; exact hz, M4, rs4, S4, acc ++ [d], vs ++ [v], (g23.trans g4).set hD, w4.set hl4 n4, upd_same, n4, ra4.snoc ry.1, p⟩
            · rw [if_neg hz] at p; exact p.elim
          | own _ => exact p.elim
          | brw _ => exact p.elim
          | scr _ => exact p.elim
          | rack _ => exact p.elim
          | pr _ _ => exact p.elim
  · have e3 : i = ds.length := by omega
    subst e3
    rw [List.drop_length] at p
    exact .inl ⟨r1.stop M' H' rs' S' σ τ g.m w s, p (.ref Dd) M' H' rs' g w ⟨⟨Dd, vs, rfl, hl, n, ra⟩, fun _ l _ z => by cases z; exact hD⟩⟩
/-- the tests of a comprehension -/
def PTss (X : Cx) (G : Gx) (W : WX) (ifs : List Expr) (f : FT) : Prop := PTs X ifs (tT X.K G W f)
def tTrue : FT := fun _ S => .ok true S
theorem ts_nil : PTss X G W [] tTrue := ⟨fun pins s σ H Q I h => by
  obtain ⟨B, M, rs, S, τ, w, sl, p⟩ := h
  exact pts_nil.run pins s σ H Q I (p true M H rs (Go.refl _ _ _) w rfl)⟩
theorem ts_one (h : PTt X G W c tc) : PTss X G W [c] tc := pts_one h
theorem d_lc {elt iter : Expr} {ifs : List Expr} {scope : Scope} {k : Nat} {x : Str} {xp : Pos} (hc : X.calm = true) (hN : X.N.Nodup) (hi : PIt X G W (.Name x xp) iter fi) (ok : blkC X.N X.env.scope scope [(x, k)] = true)
    (hg : ∀ (s : Shared) (H : Hp) (C : Addr) (cl : List (Str × Addr)) (fp : List Addr), PG (X.blk s H scope (compEnvC scope cl C X.env) fp) (.Name x xp) (gName k)) (ht : ∀ (s : Shared) (H : Hp) (C : Addr) (cl : List (Str × Addr)) (fp : List Addr), PTss (X.blk s H scope (compEnvC scope cl C X.env) fp) G WF ifs tc)
    (he : ∀ (s : Shared) (H : Hp) (C : Addr) (cl : List (Str × Addr)) (fp : List Addr), PD (X.blk s H scope (compEnvC scope cl C X.env) fp) G WF elt fe) (hs : ∀ x, foldedSetIterable iter X.env x = pure x := by intro _; rfl) :
    PD X G W (.ListComp elt [⟨.Name x xp, iter, ifs, 0⟩] scope pos) (dComp k fi tc fe) :=
  PE.imp (pe_lc (own := [(x, k)]) (tt := tT X.K G WF tc) (te := tE X.K G WF fe) hc hN hi (blkOk_by ok) hg ht he hs) fun _ _ _ h => lc_S h
theorem s_setlc {elt iter : Expr} {ifs : List Expr} {scope : Scope} {k i : Nat} {x y : Str} {xp py spos : Pos} (hc : X.calm = true) (hN : X.N.Nodup) (hy : X.N[i]? = some y) (hyl : X.env.scope.names.lookup y = some .local)
    (hsw : swapsWith (.ListComp elt [⟨.Name x xp, iter, ifs, 0⟩] scope pos) (some (.Name y py)) spos.line X.env = pure true) (hi : PIt X G W (.Name x xp) iter fi) (ok : blkC X.N X.env.scope scope [(x, k)] = true)
    (hg : ∀ (s : Shared) (H : Hp) (C : Addr) (cl : List (Str × Addr)) (fp : List Addr), PG (X.blk s H scope (compEnvC scope cl C X.env) fp) (.Name x xp) (gName k)) (ht : ∀ (s : Shared) (H : Hp) (C : Addr) (cl : List (Str × Addr)) (fp : List Addr), PTss (X.blk s H scope (compEnvC scope cl C X.env) fp) G WF ifs tc)
    (he : ∀ (s : Shared) (H : Hp) (C : Addr) (cl : List (Str × Addr)) (fp : List Addr), PD (X.blk s H scope (compEnvC scope cl C X.env) fp) G WF elt fe) (hs : ∀ x, foldedSetIterable iter X.env x = pure x := by intro _; rfl) :
    PSt X G W (.Assign [.Name y py] (.ListComp elt [⟨.Name x xp, iter, ifs, 0⟩] scope pos) spos) (sSet i (dComp k fi tc fe)) := by
  refine PS.imp (ps_setLc (i := i) (own := [(x, k)]) (tt := tT X.K G WF tc) (te := tE X.K G WF fe) hc hN hy hyl hsw hi (blkOk_by ok) hg ht he hs) fun D σ H h => ?_
  have h2 : tAsg (tE X.K G W (dComp k fi tc fe)) (gName i) D σ H := asg_S h
  exact lc_S h2

/-! ### calls, defs -/
abbrev DF := List Xv → List RS → Out Xv
def noOwn : List Xv → Bool
  | [] => true
  | .own _ :: _ => false
  | _ :: r => noOwn r
/-- the promise of a def with the meaning m -/
def spOf (K : PySem.W.Frag) (G : Gx) (n : Nat) (m : DF) : Sp := fun vs H Q E => ∃ M rs S xs, Wd G.C M H rs S ∧ RelXs K M H rs vs xs ∧ xs.length = n ∧ noOwn xs = true ∧ Post G M H rs (RE K H) E (m xs S) Q
def dCall (n : Nat) (m : DF) (fa : FA) : FE := fun τ S => (fa τ S).bind fun xs S1 => if xs.length = n ∧ noOwn xs = true then m xs S1 else .bad
theorem call_S {n : Nat} {m : DF} {σ : L2.St} {H : Hp} {Q : VK} (h : tE K G W (dCall n m ga) σ H Q) : tCallS (spOf K G n m) (WE W) (tA K G W ga) σ H Q := by
  refine r_bind (R1 := fun _ _ => RA K) h fun B M rs τ xs S1 vs M1 H1 rs1 go1 w1 s1 r1 q => ?_
  by_cases hn : xs.length = n ∧ noOwn xs = true
  · rw [if_pos hn] at q
    exact ⟨M1, rs1, S1, xs, w1, r1, hn.1, hn.2, q.lateE go1⟩
  · rw [if_neg hn] at q; exact q.elim
/-- a def that keeps the promise of its meaning -/
abbrev Ok (P : Program) (w : World) (K : PySem.W.Frag) (mg : Str → Option Value) (base : Heap) (G : Gx) (k : Nat) (f : Addr) (fd : FuncData) (ps : List Str) (m : DF) : Prop := FnOk P w K mg base (L2.CX P w) k f fd ps (spOf K G ps.length m)
theorem d_call {x : Str} {p : Pos} {k : Nat} {f : Addr} {fd : FuncData} {ps : List Str} {m : DF} (F : Ok X.prog X.w X.K X.mg X.base G k f fd ps m) (hr : Room k X.A) (hg : Gl X x) (hm : X.mg x = some (.ref f)) (hk : PySem.W.keepIn X.K (.ref f) = true) (hb : Binds X.K fd ps []) (tk : Takes X W)
    (ha : PAs X G W (a :: es) ga) (hdb : (x == ("__debug__" : Str)) = false := by decide) (he : starEach (a :: es) X.env = (false, eval a X.env) :: starEach es X.env := by rfl) (hpl : (backTo pos (starEach es X.env)).any (·.1) = false := by rfl) :
    PD X G W (.Call (.Name x p) (a :: es) [] pos) (dCall ps.length m ga) :=
  PE.imp (pe_callS F hr hg hm hk hb (fun σ => passAt tk σ) ha hdb he hpl) fun _ _ _ h => call_S h
/-! #### methods of the racks -/
def tMethS (C : Addr) (m : Str) (sp : Sp) (E : L2.St → XK) (ta : TE) (t : TA) : TE := fun σ H Q => ta σ H fun x H1 => ∃ a dx fs, x = .ref a ∧ H1 a = some (.ins C dx fs) ∧ fs.lookup m = none ∧ t σ H1 fun vs H2 => sp (x :: vs) H2 Q (E σ)
theorem pe_methE {CX : CXT} {k : Nat} {C f : Addr} {fd : FuncData} {ps : List Str} {sp : Sp} {E : L2.St → XK} {m : Str} {apos : Pos} {o : Expr} {te : TE} {t : TA} {pl : Sem Bool} (he : PE X o te) (c : Cls X.K C) (hm : Meth X.K C m f) (F : FnOk X.prog X.w X.K X.mg X.base CX k f fd ps sp) (hr : Room k X.A) (hb : Binds X.K fd ps []) (hx : ∀ σ, PassesAt CX X σ (E σ)) (ha : PA X (e :: es) t)
    (hst : starEach (e :: es) X.env = (false, eval e X.env) :: starEach es X.env := by rfl) (hpl : (backTo pos (starEach es X.env)).any (·.1) = false := by rfl)
    (ht : eval (.Call (.Attribute o m apos) (e :: es) [] pos) X.env = (do
      let ov ← eval o X.env
      standAt apos.atName
      let (f, first) ← holding [ov] (getMethod ov m pl)
      callWith pos f first (backTo pos (starEach (e :: es) X.env)) (backToKw pos (keywordEach [] X.env))) := by rfl) :
    PE X (.Call (.Attribute o m apos) (e :: es) [] pos) (tMethS C m sp E te t) := by
  refine ⟨fun pins s σ H Q I h => ?_⟩
  refine PySem.W.methodCall_KW (pl := pl) (thn (he.run pins s σ H _ I h) fun u s1 ⟨x, H1, I1, rx, a, dx, fs, ex, ea, l, q⟩ => ?_) ht
  subst ex
  obtain rfl : u = Value.ref a := rx
  refine getmeth_ok I1 ea c hm l ?_
  refine PySem.W.callWith_K (first := [.ref a]) (h₀ := X.base) I.ok.mod.kin hm.kp (thn (ha.run pos pins s1 σ H1 _ I1 q) fun us s2 ⟨vs, H2, I2, r, q2⟩ => ⟨I2.kIn, ?_⟩) hst hpl
  exact run_fnS (us := .ref a :: us) (vs := .ref a :: vs) F hr hb (hx σ) I2 (.cons rfl r) q2
theorem pe_methE0 {CX : CXT} {k : Nat} {C f : Addr} {fd : FuncData} {ps : List Str} {sp : Sp} {E : L2.St → XK} {m : Str} {apos : Pos} {o : Expr} {te : TE} {pl : Sem Bool} (he : PE X o te) (c : Cls X.K C) (hm : Meth X.K C m f) (F : FnOk X.prog X.w X.K X.mg X.base CX k f fd ps sp) (hr : Room k X.A) (hb : Binds X.K fd ps []) (hx : ∀ σ, PassesAt CX X σ (E σ))
    (ht : eval (.Call (.Attribute o m apos) [] [] pos) X.env = (do
      let ov ← eval o X.env
      standAt apos.atName
      let (f, first) ← holding [ov] (getMethod ov m pl)
      callWith pos f first (backTo pos (starEach [] X.env)) (backToKw pos (keywordEach [] X.env))) := by rfl) :
    PE X (.Call (.Attribute o m apos) [] [] pos) (tMethS C m sp E te tNil) := by
  refine ⟨fun pins s σ H Q I h => ?_⟩
  refine PySem.W.methodCall_KW (pl := pl) (thn (he.run pins s σ H _ I h) fun u s1 ⟨x, H1, I1, rx, a, dx, fs, ex, ea, l, q⟩ => ?_) ht
  subst ex
  obtain rfl : u = Value.ref a := rx
  refine getmeth_ok I1 ea c hm l ?_
  exact PySem.W.callWith_K0 (first := [.ref a]) I1.kIn hm.kp (run_fnS (us := [.ref a]) (vs := [.ref a]) F hr hb (hx σ) I1 (.cons rfl .nil) q)
/-- o.m(..), o a rack -/
def dMeth (n : Nat) (m : DF) (fo : FE) (fa : FA) : FE := fun τ S => (fo τ S).bind fun o S1 => match o with
  | .rack i => (fa τ S1).bind fun xs S2 => if xs.length + 1 = n ∧ noOwn xs = true then m (.rack i :: xs) S2 else .bad
  | _ => .bad
theorem rfs_lookup (r : Rk) {m : Str} (h1 : (m == ("shelves" : Str)) = false) (h2 : (m == ("boxes" : Str)) = false) (h3 : (m == ("places" : Str)) = false) : (rfs r).lookup m = none := by
  show List.lookup m [(("shelves" : Str), V.ref r.sh), (("boxes" : Str), V.ref r.db), (("places" : Str), V.ref r.dp)] = none
  simp [List.lookup, h1, h2, h3]
theorem Wd.rack {C : Addr} {M H : Hp} {rs : List Rk} {S : List RS} (w : Wd C M H rs S) {i : Nat} {r : Rk} (h : rs[i]? = some r) : ∃ s, S[i]? = some s ∧ RackAt C M H r s := by
  have hi : i < S.length := by rw [← w.ln]; exact (List.getElem?_eq_some_iff.mp h).1
  exact ⟨_, List.getElem?_eq_getElem hi, w.rk i r _ h (List.getElem?_eq_getElem hi)⟩
theorem meth_S {n : Nat} {m : DF} {nm : Str} {σ : L2.St} {H : Hp} {Q : VK} (h1 : (nm == ("shelves" : Str)) = false) (h2 : (nm == ("boxes" : Str)) = false) (h3 : (nm == ("places" : Str)) = false) (h : tE K G W (dMeth n m fe ga) σ H Q) :
    tMethS G.C nm (spOf K G n m) (WE W) (tQ K G W fe) (tA K G W ga) σ H Q := by
  refine r_bind (R1 := fun _ _ => RQ K) h fun B M rs τ o S1 v M1 H1 rs1 go1 w1 s1 r1 q => ?_
  cases o with
  | rack i =>
    obtain ⟨r, hr, rfl⟩ := (show RelX K M1 H1 rs1 v (.rack i) from r1)
    obtain ⟨s, hs, ra⟩ := w1.rack hr
    refine ⟨r.p, r.dx, rfs r, rfl, ra.ob, rfs_lookup r h1 h2 h3, ?_⟩
    refine ⟨B, M1, rs1, S1, τ, w1, s1, (q.lateE go1).bind fun xs S2 vs M2 H2 rs2 go2 w2 r2 q => ?_⟩
    by_cases hn : xs.length + 1 = n ∧ noOwn xs = true
    · rw [if_pos hn] at q
      exact ⟨M2, rs2, S2, .rack i :: xs, w2, .cons ⟨r, go2.rk hr, rfl⟩ r2, by rw [← hn.1]; rfl, hn.2, q.lateE go2⟩
    · rw [if_neg hn] at q; exact q.elim
  | _ => exact q.elim
theorem d_meth {m : Str} {apos : Pos} {o : Expr} {k : Nat} {f : Addr} {fd : FuncData} {ps : List Str} {mm : DF} {pl : Sem Bool} (ho : PP X G W o fe) (c : Cls X.K G.C) (hm : Meth X.K G.C m f) (F : Ok X.prog X.w X.K X.mg X.base G k f fd ps mm) (hr : Room k X.A) (hb : Binds X.K fd ps []) (tk : Takes X W) (ha : PAs X G W (a :: es) ga)
    (h1 : (m == ("shelves" : Str)) = false := by decide) (h2 : (m == ("boxes" : Str)) = false := by decide) (h3 : (m == ("places" : Str)) = false := by decide)
    (hst : starEach (a :: es) X.env = (false, eval a X.env) :: starEach es X.env := by rfl) (hpl : (backTo pos (starEach es X.env)).any (·.1) = false := by rfl)
    (ht : eval (.Call (.Attribute o m apos) (a :: es) [] pos) X.env = (do
      let ov ← eval o X.env
      standAt apos.atName
      let (f, first) ← holding [ov] (getMethod ov m pl)
      callWith pos f first (backTo pos (starEach (a :: es) X.env)) (backToKw pos (keywordEach [] X.env))) := by rfl) :
    PD X G W (.Call (.Attribute o m apos) (a :: es) [] pos) (dMeth ps.length mm fe ga) :=
  PE.imp (pe_methE (pl := pl) ho c hm F hr hb (fun σ => passAt tk σ) ha hst hpl ht) fun _ _ _ h => meth_S h1 h2 h3 h
theorem nil_S {σ : L2.St} {H : Hp} {Q : List V → Hp → Prop} (h : tA K G W aNil σ H Q) : tNil σ H Q := by
  obtain ⟨B, M, rs, S, τ, w, s, p⟩ := h
  exact p [] M H rs (Go.refl _ _ _) w .nil
theorem q_mono {f : FE} {σ : L2.St} {H : Hp} {Q R : VK} (h : tQ K G W f σ H Q) (k : ∀ v H', Q v H' → R v H') : tQ K G W f σ H R := by
  obtain ⟨B, M, rs, S, τ, w, s, p⟩ := h
  refine ⟨B, M, rs, S, τ, w, s, ?_⟩
  cases q : f τ S with
  | bad => rw [q] at p; exact p
  | ok x S' => rw [q] at p; exact fun v M' H' rs' go wd rel => k _ _ (p v M' H' rs' go wd rel)
  | ex c S' => rw [q] at p; exact p
theorem d_meth0 {m : Str} {apos : Pos} {o : Expr} {k : Nat} {f : Addr} {fd : FuncData} {ps : List Str} {mm : DF} {pl : Sem Bool} (ho : PP X G W o fe) (c : Cls X.K G.C) (hm : Meth X.K G.C m f) (F : Ok X.prog X.w X.K X.mg X.base G k f fd ps mm) (hr : Room k X.A) (hb : Binds X.K fd ps []) (tk : Takes X W)
    (h1 : (m == ("shelves" : Str)) = false := by decide) (h2 : (m == ("boxes" : Str)) = false := by decide) (h3 : (m == ("places" : Str)) = false := by decide)
    (ht : eval (.Call (.Attribute o m apos) [] [] pos) X.env = (do
      let ov ← eval o X.env
      standAt apos.atName
      let (f, first) ← holding [ov] (getMethod ov m pl)
      callWith pos f first (backTo pos (starEach [] X.env)) (backToKw pos (keywordEach [] X.env))) := by rfl) :
    PD X G W (.Call (.Attribute o m apos) [] [] pos) (dMeth ps.length mm fe aNil) :=
  PE.imp (pe_methE0 (pl := pl) ho c hm F hr hb (fun σ => passAt tk σ) ht) fun σ H Q h => by
    have h := meth_S h1 h2 h3 h
    refine q_mono h fun x H1 ⟨a, dx, fs, e1, e2, e3, q⟩ => ⟨a, dx, fs, e1, e2, e3, nil_S q⟩
/-! #### a def -/
def start' (n : Nat) (xs : List Xv) : Sl := xs.map some ++ List.replicate (n - xs.length) none
/-- the meaning of a def of n slots with the body f -/
def defM (n : Nat) (f : FS) : DF := fun xs S => match f (start' n xs) S with
  | .nx _ S' => .ok (.val .none) S'
  | .rt x S' => .ok x S'
  | .ex c _ S' => .ex c S'
  | _ => .bad
theorem noOwn_get : ∀ {xs : List Xv} {i : Nat} {ds : List D}, noOwn xs = true → xs[i]? ≠ some (.own ds)
  | [], _, _, _ => by simp
  | x :: xs, 0, ds, h => by
    intro e
    simp at e
    subst e
    cases h
  | x :: xs, i + 1, ds, h => by
    have h2 : noOwn xs = true := by cases x <;> first | exact h | cases h
    simpa using noOwn_get (i := i) h2
theorem start_get {α : Type} {n : Nat} {xs : List α} {i : Nat} {x : α} (h : (xs.map some ++ List.replicate (n - xs.length) none)[i]? = some (some x)) : xs[i]? = some x := by
  by_cases hi : i < xs.length
  · rw [List.getElem?_append_left (by simpa using hi), List.getElem?_map] at h
    cases e : xs[i]? with
    | none => rw [e] at h; cases h
    | some y => rw [e] at h; cases h; rfl
  · rw [List.getElem?_append_right (by simpa using hi), List.getElem?_replicate] at h
    split at h <;> cases h
theorem slots_start {M H : Hp} {rs : List Rk} {S : List RS} {C : Addr} {vs : List V} {xs : List Xv} {N : List Str} (r : RelXs K M H rs vs xs) (n : noOwn xs = true) : Slots K ⟨M, H, rs⟩ M H rs (L2.start N vs) (start' N.length xs) where
  ln := by
    unfold L2.start start'
    simp [r.length]
  at_ := fun i x e => by
    obtain ⟨v, h1, h2⟩ := r.get (start_get e)
    refine ⟨v, ?_, h2⟩
    unfold L2.start
    rw [List.getElem?_append_left (by simpa using (List.getElem?_eq_some_iff.mp h1).1), List.getElem?_map, h1]
    rfl
  ap := fun i j x y _ e _ => absurd (start_get e) (noOwn_get n)
  fr := fun i x l e _ => absurd (start_get e) (noOwn_get n)
  br := fun i x l e1 e2 => by
    obtain ⟨v, h1, l', vs', rfl, hl, _⟩ := r.get (start_get e1)
    have := start_get e2
    rw [h1] at this
    cases this
    show H l ≠ none
    rw [hl]; simp
  go := Go.refl _ _ _
theorem def_S {n : Nat} {N : List Str} {m : DF} {f : FS} {vs : List V} {H : Hp} {Q : VK} {E : XK} (hm : m = defM N.length f) (h : spOf K G n m vs H Q E) : tS K G (fun cls d _ H => E cls d H) f { nx := fun _ H' => Q .non H', rt := Q } (L2.start N vs) H := by
  obtain ⟨M, rs, S, xs, w, r, _, no, p⟩ := h
  subst hm
  refine ⟨⟨M, H, rs⟩, M, rs, S, start' N.length xs, w, slots_start (C := G.C) (S := S) r no, ?_⟩
  unfold defM at p
  cases z : f (start' N.length xs) S with
  | bad => rw [z] at p; exact p.elim
  | nx τ S' => rw [z] at p; exact fun σ M' H' rs' e w' s' => p .non M' H' rs' s'.go w' ⟨.non, fun _ _ q _ => nomatch q⟩
  | rt x S' => rw [z] at p; exact fun v M' H' rs' e g w' r fr => p v M' H' rs' g w' ⟨r, fr⟩
  | bk τ S' => rw [z] at p; exact p.elim
  | ct τ S' => rw [z] at p; exact p.elim
  | ex c τ S' => rw [z] at p; exact fun σ M' H' rs' e w' s' => p M' H' rs' s'.go w'
theorem ok_def {P : Program} {w : World} {mg : Str → Option Value} {base : Heap} {k : Nat} {f : Addr} {fd : FuncData} {x qual : Str} {params : Arguments} {body : List Stmt} {scope : Scope} {N ps : List Str} {g : FS} (F : FunD K x qual params body scope [] [] f fd) (S : FnScope N ps scope)
    (hb : ∀ (cdv : Value) (A : Around) (outer : List Env) (s : Shared) (H : Hp) (E : XK), Room k (A.deeper (envOfC qual scope s.heap.objs.size f cdv)) → PBl (cxOf (L2.CX P w) P w K mg base N qual scope f cdv A outer s H E) G (fun cls d _ H => E cls d H) body g) :
    Ok P w K mg base G (k + 1) f fd ps (defM N.length g) := by
  refine F.ok S (fun vs H Q E h => ?_) (fun cdv A outer s H vs Q E hr h => ⟨_, hb cdv A outer s H E hr, def_S rfl h⟩)
  obtain ⟨M, rs, S, xs, _, r, hl, _⟩ := h
  exact r.length.trans hl
theorem hp_ok {P : Program} {w : World} {mg : Str → Option Value} {base : Heap} {N : List Str} {qual : Str} {scope : Scope} {f : Addr} {cd : Value} {A : Around} {outer : List Env} {s : Shared} {H : Hp} {E : XK} :
    PassesOwn (model P w) (cxOf (L2.CX P w) P w K mg base N qual scope f cd A outer s H E).A (cxOf (L2.CX P w) P w K mg base N qual scope f cd A outer s H E).env (cxOf (L2.CX P w) P w K mg base N qual scope f cd A outer s H E).xe := passes_of rfl
theorem tk_ok {P : Program} {w : World} {mg : Str → Option Value} {base : Heap} {N : List Str} {qual : Str} {scope : Scope} {f : Addr} {cd : Value} {A : Around} {outer : List Env} {s : Shared} {H : Hp} {E : XK} :
    Takes (cxOf (L2.CX P w) P w K mg base N qual scope f cd A outer s H E) (fun cls d _ H => E cls d H) := takes_of rfl rfl rfl rfl
end
end Pk
/-! Pk, part 7: isinstance, sorted, unpacking, items stored, insert. -/
namespace Pk
open PySem L2 PySem.Spec PyProof.Rows
section
variable {X : Cx} {G : Gx} {W : WX} {K : PySem.W.Frag} {e a b c tg : Expr} {es rest : List Expr} {pos : Pos} {fe fa fb fc pa pb pc : FE} {ta tb tc : FT} {ga gb : FA} {fs gs : FS} {st : Stmt} {sts sus : List Stmt} {fi : FI}
/-! ### isinstance -/
inductive Ty where | int | bool | str | tuple | list
def Ty.nm : Ty → String
  | .int => "int" | .bool => "bool" | .str => "str" | .tuple => "tuple" | .list => "list"
def isiD : Ty → D → Bool
  | .int, .int _ => true
  | .int, .bool _ => true
  | .bool, .bool _ => true
  | .str, .str _ => true
  | .tuple, .tuple _ => true
  | .list, .list _ => true
  | _, _ => false
def isDict : D → Bool
  | .dict _ => true
  | _ => false
def gIsi (t : Ty) : Xv → Option Xv
  | .val d => if isDict d then none else some (.val (.bool (isiD t d)))
  | _ => none
def dIsi (t : Ty) (f : FE) : FE := fun τ S => (f τ S).bind fun x S1 => ofO (gIsi t x) S1
theorem kit_all (t : Ty) : (∀ {K : PySem.W.Frag}, PySem.W.kitOne K (.type "NoneType") (.type t.nm) = some false) ∧ (∀ {K : PySem.W.Frag} (b : Bool), PySem.W.kitOne K (.type "bool") (.type t.nm) = some (isiD t (.bool b))) ∧ (∀ {K : PySem.W.Frag} (b : Int), PySem.W.kitOne K (.type "int") (.type t.nm) = some (isiD t (.int b))) ∧
    (∀ {K : PySem.W.Frag} (b : Str), PySem.W.kitOne K (.type "str") (.type t.nm) = some (isiD t (.str b))) ∧ (∀ {K : PySem.W.Frag} (b : List D), PySem.W.kitOne K (.type "tuple") (.type t.nm) = some (isiD t (.tuple b))) ∧ (∀ {K : PySem.W.Frag} (b : List D), PySem.W.kitOne K (.type "list") (.type t.nm) = some (isiD t (.list b))) := by
  have k (a b : String) (r : Bool) (h : decide (kitB a b = some r) = true) : ∀ {K : PySem.W.Frag}, PySem.W.kitOne K (.type a) (.type b) = some r := kit_ty (of_decide_eq_true h)
  cases t with
  | int => exact ⟨k _ _ false (by decide +kernel), fun _ => k _ _ true (by decide +kernel), fun _ => k _ _ true (by decide +kernel), fun _ => k _ _ false (by decide +kernel), fun _ => k _ _ false (by decide +kernel), fun _ => k _ _ false (by decide +kernel)⟩
  | bool => exact ⟨k _ _ false (by decide +kernel), fun _ => k _ _ true (by decide +kernel), fun _ => k _ _ false (by decide +kernel), fun _ => k _ _ false (by decide +kernel), fun _ => k _ _ false (by decide +kernel), fun _ => k _ _ false (by decide +kernel)⟩
  | str => exact ⟨k _ _ false (by decide +kernel), fun _ => k _ _ false (by decide +kernel), fun _ => k _ _ false (by decide +kernel), fun _ => k _ _ true (by decide +kernel), fun _ => k _ _ false (by decide +kernel), fun _ => k _ _ false (by decide +kernel)⟩
  | tuple => exact ⟨k _ _ false (by decide +kernel), fun _ => k _ _ false (by decide +kernel), fun _ => k _ _ false (by decide +kernel), fun _ => k _ _ false (by decide +kernel), fun _ => k _ _ true (by decide +kernel), fun _ => k _ _ false (by decide +kernel)⟩
  | list => exact ⟨k _ _ false (by decide +kernel), fun _ => k _ _ false (by decide +kernel), fun _ => k _ _ false (by decide +kernel), fun _ => k _ _ false (by decide +kernel), fun _ => k _ _ false (by decide +kernel), fun _ => k _ _ true (by decide +kernel)⟩
theorem d_isi (t : Ty) {T : Str} {p q : Pos} (hg : Gl X "isinstance") (hm : X.mg "isinstance" = none) (ha : PP X G W a pa) (hgT : Gl X T) (hmT : X.mg T = none) (hvT : bootBuiltins T = some (.type t.nm)) (hn : T ≠ "__name__" := by decide) (hd : (T == ("__debug__" : Str)) = false := by decide)
    (hst : starEach (a :: [.Name T q]) X.env = (false, eval a X.env) :: starEach [.Name T q] X.env := by rfl) (hst2 : starEach (.Name T q :: []) X.env = (false, eval (.Name T q) X.env) :: starEach [] X.env := by rfl) (hpl : (backTo pos (starEach [.Name T q] X.env)).any (·.1) = false := by rfl) :
    PD X G W (.Call (.Name "isinstance" p) [a, .Name T q] [] pos) (dIsi t pa) := by
  refine PE.imp (pe_callB call_isi hg hm boot_isinstance (pa_cons ha (pa_cons (pe_bltn (v := .ty t.nm) hgT hmT hvT rfl hn hd) pa_nil hst2) hst) (by decide) (by decide) hst hpl) fun σ H Q h => ?_
  refine r_bind (R1 := fun _ _ => RQ X.K) h fun B M rs τ x S1 v M1 H1 rs1 go1 w1 s1 r1 q => ?_
  have q := q.lateE go1
  cases x with
  | val d =>
    obtain ⟨k1, k2, k3, k4, k5, k6⟩ := kit_all t
    have q : Post G M1 H1 rs1 (RE X.K H1) (WE W σ) (ofO (if isDict d then none else some (.val (.bool (isiD t d)))) S1) Q := q
    cases d with
    | none => rw [RelP.non (show RelP M1 H1 v .none from r1)]; refine ⟨.non, .ty t.nm, _, _, false, rfl, .ty _, .base .non, k1, ?_⟩; cases t <;> exact q.now w1 (.bl _)
    | bool b => rw [RelP.bl (show RelP M1 H1 v (.bool b) from r1)]; exact ⟨_, .ty t.nm, _, _, _, rfl, .ty _, .base (.bl b), k2 b, q.now w1 (.bl _)⟩
    | int b => rw [RelP.int (show RelP M1 H1 v (.int b) from r1)]; exact ⟨_, .ty t.nm, _, _, _, rfl, .ty _, .base (.int b), k3 b, q.now w1 (.bl _)⟩
    | str b => rw [RelP.str (show RelP M1 H1 v (.str b) from r1)]; exact ⟨_, .ty t.nm, _, _, _, rfl, .ty _, .base (.str b), k4 b, q.now w1 (.bl _)⟩
    | tuple ds =>
      obtain ⟨l, vs, rfl, hl, ra⟩ := RelP.tup (show RelP M1 H1 v (.tuple ds) from r1)
      exact ⟨_, .ty t.nm, _, _, _, rfl, .ty _, .base (.tup (w1.ex _ _ hl)), k5 ds, q.now w1 (.bl _)⟩
    | list ds =>
      obtain ⟨l, vs, rfl, hl, ra⟩ := (show RelP M1 H1 v (.list ds) from r1)
      exact ⟨_, .ty t.nm, _, _, _, rfl, .ty _, .base (.lst hl), k6 ds, q.now w1 (.bl _)⟩
    | dict kvs => exact q.elim
  | _ => exact q.elim
/-! ### sorted -/
def insI (n : Int) : List Int → List Int
  | [] => [n]
  | m :: ms => if n ≤ m then n :: m :: ms else m :: insI n ms
def sortI : List Int → List Int
  | [] => []
  | n :: ns => insI n (sortI ns)
theorem insI_perm (n : Int) : ∀ ms : List Int, (insI n ms).Perm (n :: ms)
  | [] => .refl _
  | m :: ms => by
    unfold insI
    split
    · exact .refl _
    · exact ((insI_perm n ms).cons m).trans (.swap n m ms)
theorem sortI_perm : ∀ ns : List Int, (sortI ns).Perm ns
  | [] => .refl _
  | n :: ns => (insI_perm n _).trans ((sortI_perm ns).cons n)
theorem insI_pw (n : Int) : ∀ {ms : List Int}, ms.Pairwise (· ≤ ·) → (insI n ms).Pairwise (· ≤ ·)
  | [], _ => by simp [insI]
  | m :: ms, h => by
    rw [List.pairwise_cons] at h
    unfold insI
    split
    · rename_i hn
      rw [List.pairwise_cons, List.pairwise_cons]
      refine ⟨fun x hx => ?_, h⟩
      rcases List.mem_cons.mp hx with rfl | hx
      · exact hn
      · exact Int.le_trans hn (h.1 x hx)
    · rename_i hn
      rw [List.pairwise_cons]
      refine ⟨fun x hx => ?_, insI_pw n h.2⟩
      rcases List.mem_cons.mp ((insI_perm n ms).mem_iff.mp hx) with rfl | hx
      · omega
      · exact h.1 x hx
theorem sortI_pw : ∀ ns : List Int, (sortI ns).Pairwise (· ≤ ·)
  | [] => .nil
  | n :: ns => insI_pw n (sortI_pw ns)
theorem pw_unique : ∀ {xs ys : List Int}, xs.Perm ys → xs.Pairwise (· ≤ ·) → ys.Pairwise (· ≤ ·) → xs = ys
  | [], ys, p, _, _ => (List.nil_perm.mp p).symm
  | x :: xs, [], p, _, _ => absurd p (by simp)
  | x :: xs, y :: ys, p, h1, h2 => by
    rw [List.pairwise_cons] at h1 h2
    have e : x = y := by
      have a1 : x ∈ y :: ys := p.mem_iff.mp List.mem_cons_self
      have a2 : y ∈ x :: xs := p.mem_iff.mpr List.mem_cons_self
      rcases List.mem_cons.mp a1 with e | a1
      · exact e
      · rcases List.mem_cons.mp a2 with e | a2
        · exact e.symm
        · have := h2.1 x a1
          have := h1.1 y a2
          omega
    subst e
    rw [pw_unique (List.perm_cons x |>.mp p) h1.2 h2.2]
def intsD : List D → Option (List Int)
  | [] => some []
  | .int i :: r => (intsD r).map (i :: ·)
  | _ => none
theorem intsD_eq : ∀ {ds : List D} {ns : List Int}, intsD ds = some ns → ds = ns.map .int
  | [], ns, h => by cases h; rfl
  | .int i :: r, ns, h => by
    unfold intsD at h
    cases q : intsD r with
    | none => rw [q] at h; cases h
    | some l => rw [q] at h; cases h; rw [intsD_eq q]; rfl
  | .none :: _, _, h => by cases h
  | .bool _ :: _, _, h => by cases h
  | .str _ :: _, _, h => by cases h
  | .tuple _ :: _, _, h => by cases h
  | .list _ :: _, _, h => by cases h
  | .dict _ :: _, _, h => by cases h
def gSorted : List Xv → Option Xv
  | [.val (.list ds)] => (intsD ds).map fun ns => .own ((sortI ns).map .int)
  | _ => none
theorem bs_sorted : BS K G (rSortedI K) gSorted := by
  intro M H rs S vs xs z WW Q w r e p
  unfold gSorted at e
  split at e
  · rename_i ds
    cases q : intsD ds with
    | none => rw [q] at e; cases e
    | some ns =>
      rw [q] at e
      cases e
      obtain ⟨v, rfl, r1⟩ := relQs1 r
      obtain ⟨l, vs, rfl, hl, ra⟩ := (show RelP M H v (.list ds) from r1)
      have e2 := intsD_eq q
      subst e2
      have e3 := ra.ints
      subst e3
      refine ⟨l, ns, rfl, SqL.of hl, fun ns' t hp hs ht => ?_⟩
      have e4 : ns' = sortI ns := pw_unique (hp.trans (sortI_perm ns).symm) hs (sortI_pw ns)
      subst e4
      exact p.nlist w (rpA_ints _) ht
  · cases e
def dSorted (f : FE) : FE := dB gSorted (aCons f aNil)
theorem d_sorted {p : Pos} (hg : Gl X "sorted") (hm : X.mg "sorted" = none) (ha : PP X G W a pa) (hst : starEach (a :: []) X.env = (false, eval a X.env) :: starEach [] X.env := by rfl) (hpl : (backTo pos (starEach [] X.env)).any (·.1) = false := by rfl) : PD X G W (.Call (.Name "sorted" p) [a] [] pos) (dSorted pa) :=
  d_callB bs_sorted cr_sortedI hg hm boot_sorted (q_cons ha q_nil hst) (by decide) (by decide) hst hpl
/-! ### a, b = e -/
def sUnp (ks : List Nat) (f : FE) : FS := fun τ S => bindS (f τ S) τ fun x S1 => match x with
  | .val (.tuple ds) => (match gNs ks ds τ with | some τ' => .nx τ' S1 | none => .bad)
  | _ => .bad
theorem s_unp (ks : List Nat) {tgs : List Expr} {kk : Nat} {tpos : Pos} {spos : Pos} (hc : X.calm = true) (he : PD X G W e fe) (hg : PGs X tgs (gCons' ks)) (hl : tgs.length = ks.length := by rfl)
    (hn : (assignEach tgs X.env).length = ks.length := by rfl) (hst : (assignEach tgs X.env).findIdx? (·.1) = none := by rfl)
    (hs : swapsWithSole [.Tuple tgs kk tpos] e spos.line X.env = pure false := by rfl) (hw : swappedStores [.Tuple tgs kk tpos] e X.env = pure none := by rfl)
    (h1 : (assignEach [.Tuple tgs kk tpos] X.env).map (·.2) = [assign (.Tuple tgs kk tpos) X.env] := by rfl) : PSt X G W (.Assign [.Tuple tgs kk tpos] e spos) (sUnp ks fe) := by
  refine PS.imp (ps_asg he (pg_tup hc hg hn hst) hs hw h1) fun D σ H h => ?_
  refine s_bind (R1 := fun _ H => RE X.K H) h fun B M rs τ x S1 v M1 H1 rs1 go1 w1 s1 s0 r1 q => ?_
  split at q
  · rename_i ds
    obtain ⟨a, vs, rfl, ha, ra⟩ := Rp.tupI (show Rp M1 v (.tuple ds) from r1.1)
    split at q
    · rename_i τ' hτ
      obtain ⟨h1, h2⟩ := tgs_ns ks w1 s1 ra hτ fun σ' s' => q σ' M1 H1 rs1 (Same.refl _) w1 s'
      exact ⟨a, vs, rfl, SqT.of (w1.ex _ _ ha), by rw [ra.length, h2], h1⟩
    · exact q.elim
  · exact q.elim
/-- a, b = a list -/
def sUnpL (ks : List Nat) (k : Nat) : FS := fun τ S => match τ[k]? with
  | some (some (.own ds)) => (match gNs ks ds τ with | some τ' => .nx τ' S | none => .bad)
  | _ => .bad
theorem s_unpl (ks : List Nat) (k : Nat) {x : Str} {p : Pos} {tgs : List Expr} {kk : Nat} {tpos : Pos} {spos : Pos} (hc : X.calm = true) (hg : PGs X tgs (gCons' ks)) (hN : X.N[k]? = some x := by rfl) (hv : Vis X.env.scope x := by first | exact Or.inl rfl | exact Or.inr (Or.inl rfl) | exact Or.inr (Or.inr rfl)) (hd : (x == ("__debug__" : Str)) = false := by decide)
    (hcd : (x == ("__classdict__" : Str)) = false := by decide) (hn : (assignEach tgs X.env).length = ks.length := by rfl) (hst : (assignEach tgs X.env).findIdx? (·.1) = none := by rfl)
    (hs : swapsWithSole [.Tuple tgs kk tpos] (.Name x p) spos.line X.env = pure false := by rfl) (hw : swappedStores [.Tuple tgs kk tpos] (.Name x p) X.env = pure none := by rfl)
    (h1 : (assignEach [.Tuple tgs kk tpos] X.env).map (·.2) = [assign (.Tuple tgs kk tpos) X.env] := by rfl) : PSt X G W (.Assign [.Tuple tgs kk tpos] (.Name x p) spos) (sUnpL ks k) := by
  refine PS.imp (ps_asg (pe_var (i := k) hN hv hd hcd) (pg_lst hc hg hn hst) hs hw h1) fun D σ H h => ?_
  obtain ⟨B, M, rs, S, τ, w, s, p⟩ := h
  unfold sUnpL at p
  split at p
  · rename_i ds e
    obtain ⟨v, hv, l, vs, rfl, hl, n, ra⟩ := s.at_ k _ e
    split at p
    · rename_i τ' hτ
      obtain ⟨h1, h2⟩ := tgs_ns ks w s ra hτ fun σ' s' => p σ' M H rs (Same.refl _) w s'
      exact ⟨_, hv, l, vs, rfl, SqL.of hl, by rw [ra.length, h2], h1⟩
    · exact p.elim
  · exact p.elim
/-! ### x[i] = e -/
def sStI (k : Nat) (i f : FE) : FS := fun τ S => bindS (f τ S) τ fun x S1 => match τ[k]?, x with
  | some (some (.own ds)), .val d => bindS (i τ S1) τ fun y S2 => (match y with
    | .val (.int n) => (match ixN ds.length n with | some j => .nx (τ.set k (some (.own (ds.set j d)))) S2 | none => .bad)
    | _ => .bad)
  | _, _ => .bad
theorem s_sti (k : Nat) {x : Str} {p ppos : Pos} {spos : Pos} (he : PD X G W e fe) (hi : PP X G W a pa) (hN : X.N[k]? = some x := by rfl) (hv : Vis X.env.scope x := by first | exact Or.inl rfl | exact Or.inr (Or.inl rfl) | exact Or.inr (Or.inr rfl)) (hd : (x == ("__debug__" : Str)) = false := by decide)
    (hcd : (x == ("__classdict__" : Str)) = false := by decide) (ha : ∀ v, assign (.Subscript (.Name x p) a ppos) X.env v = (do
      let ov ← holding [v] (eval (.Name x p) X.env)
      let iv ← holding [v, ov] (eval a X.env)
      standAt ppos
      holding [v, ov, iv] (setItem ov iv v)
      release [v, ov, iv] []) := by intro _; rfl)
    (hs : swapsWithSole [.Subscript (.Name x p) a ppos] e spos.line X.env = pure false := by rfl) (hw : swappedStores [.Subscript (.Name x p) a ppos] e X.env = pure none := by rfl)
    (h1 : (assignEach [.Subscript (.Name x p) a ppos] X.env).map (·.2) = [assign (.Subscript (.Name x p) a ppos) X.env] := by rfl) : PSt X G W (.Assign [.Subscript (.Name x p) a ppos] e spos) (sStI k pa fe) := by
  refine PS.imp (ps_asg he (pg_sub (pe_var (i := k) hN hv hd hcd) hi set_list ha) hs hw h1) fun D σ H h => ?_
  refine s_bind (R1 := fun _ H => RE X.K H) h fun B M rs τ x S1 v M1 H1 rs1 go1 w1 s1 s0 r1 q => ?_
  split at q
  · rename_i ds d e
    obtain ⟨u, hu, l, vs, rfl, hl, n, ra⟩ := s1.at_ k _ e
    refine ⟨_, hu, ?_⟩
    refine ⟨B, M1, rs1, S1, τ, w1, s1, ?_⟩
    cases z : pa τ S1 with
    | bad => rw [z] at q; exact q.elim
    | ex c S' => rw [z] at q; exact fun M' H' rs' go wd => q σ M' H' rs' go.m wd (s1.goes w1 go)
    | ok y S2 =>
      rw [z] at q
      intro yv M2 H2 rs2 go2 w2 r2
      have q2 : PostS G X.K W B M1 (match (generalizing := false) y with
      | .val (.int n) => (match ixN ds.length n with | some j => .nx (τ.set k (some (.own (ds.set j d)))) S2 | none => .bad)
      | _ => .bad) D := q
      have s2 := s1.goes w1 go2
      have hl2 := go2.fr l _ hl (w1.nfoot hl)
      have n2 := go2.nw l (by rw [hl]; simp) n
      have rv := Rp.mono go2.m r1.1
      clear q
      split at q2
      · rename_i i
        split at q2
        · rename_i j hj
          refine ⟨l, vs, i, j, rfl, RelP.int (show RelP M2 H2 yv (.int i) from r2), hl2, by rw [ra.length]; exact hj, ?_⟩
          exact q2 σ M2 _ rs2 go2.m (w2.set hl2 n2) (Slots.chg w2 s2 e hu hl2 n2 ((ra.mono go2.m).set j rv))
        · exact q2.elim
      · exact q2.elim
  · exact q.elim
/-- x.insert(i, e) -/
def sIns (k : Nat) (i f : FE) : FS := fun τ S => match τ[k]? with
  | some (some (.own ds)) => bindS ((i τ S).bind fun y S1 => (f τ S1).bind fun x S2 => (match y, x with
      | .val (.int n), .val d => if 0 ≤ n ∧ n < 4611686018427387904 ∧ ds.length < 16777216 then .ok (n, d) S2 else .bad
      | _, _ => .bad)) τ fun z S2 => .nx (τ.set k (some (.own (ds.take z.1.toNat ++ [z.2] ++ ds.drop z.1.toNat)))) S2
  | _ => .bad
theorem s_ins (k : Nat) {x : Str} {p apos cpos : Pos} (hi : PD X G W a fa) (he : PD X G W e fe) (hN : X.N[k]? = some x := by rfl) (hv : Vis X.env.scope x := by first | exact Or.inl rfl | exact Or.inr (Or.inl rfl) | exact Or.inr (Or.inr rfl)) (hd : (x == ("__debug__" : Str)) = false := by decide)
    (hcd : (x == ("__classdict__" : Str)) = false := by decide) (hm : PE X (.Call (.Attribute (.Name x p) "insert" apos) [a, e] [] cpos) (tBM X.K "list" (fun x vs H Q => ∃ (l : Addr) (xs : List V) (i : Int) (y : V), x = .ref l ∧ vs = [.int i, y] ∧ H l = some (.lst xs) ∧ xs.length < sizeLine ∧ 0 ≤ i ∧ i < 2 ^ 63 ∧
    Q .non (upd H l (.lst (xs.take i.toNat ++ [y] ++ xs.drop i.toNat)))) (tVar k) (tCons (tE X.K G W fa) (tCons (tE X.K G W fe) tNil))))
    (hs : swapsWith (.Call (.Attribute (.Name x p) "insert" apos) [a, e] [] cpos) none pos.line X.env = pure false := by rfl) :
    PSt X G W (.Expr (.Call (.Attribute (.Name x p) "insert" apos) [a, e] [] cpos) pos) (sIns k fa fe) := by
  refine PS.imp (ps_expr hm hs) fun D σ H h => ?_
  obtain ⟨B, M, rs, S, τ, w, s, p⟩ := h
  unfold sIns at p
  split at p
  · rename_i ds e
    obtain ⟨v, hv, l, vs, rfl, hl, n, ra⟩ := s.at_ k _ e
    refine ⟨_, hv, Or.inl ⟨rfl, _, Or.inl (Or.inl hl)⟩, ?_⟩
    refine ⟨B, M, rs, S, τ, w, s, ?_⟩
    cases q : fa τ S with
    | bad => rw [q] at p; exact p.elim
    | ex c S' => rw [q] at p; exact fun M' H' rs' go wd => p σ M' H' rs' go.m wd (s.goes w go)
    | ok y S1 =>
      rw [q] at p
      intro yv M1 H1 rs1 go1 w1 r1
      have p1 : PostS G X.K W B M (bindS ((fe τ S1).bind fun x S2 => (match (generalizing := false) y, x with
      | .val (.int n), .val d => if 0 ≤ n ∧ n < 4611686018427387904 ∧ ds.length < 16777216 then Out.ok (n, d) S2 else .bad
      | _, _ => .bad)) τ fun z S2 => .nx (τ.set k (some (.own (ds.take z.1.toNat ++ [z.2] ++ ds.drop z.1.toNat)))) S2) D := p
      clear p
      have s1 := s.goes w go1
      refine ⟨B, M1, rs1, S1, τ, w1, s1, ?_⟩
      cases q2 : fe τ S1 with
      | bad => rw [q2] at p1; exact p1.elim
      | ex c S' => rw [q2] at p1; exact fun M' H' rs' go wd => p1 σ M' H' rs' (go1.m.trans go.m) wd (s1.goes w1 go)
      | ok x S2 =>
        rw [q2] at p1
        intro xv M2 H2 rs2 go2 w2 r2
        have p2 : PostS G X.K W B M (bindS (match (generalizing := false) y, x with
      | .val (.int n), .val d => if 0 ≤ n ∧ n < 4611686018427387904 ∧ ds.length < 16777216 then Out.ok (n, d) S2 else .bad
      | _, _ => .bad) τ fun z S2 => .nx (τ.set k (some (.own (ds.take z.1.toNat ++ [z.2] ++ ds.drop z.1.toNat)))) S2) D := p1
        clear p1
        split at p2
        · rename_i i d
          split at p2
          · rename_i hz
            have s2 := s1.goes w1 go2
            have hl1 := go1.fr l _ hl (w.nfoot hl)
            have n1 := go1.nw l (by rw [hl]; simp) n
            have hl2 := go2.fr l _ hl1 (w1.nfoot hl1)
            have n2 := go2.nw l (by rw [hl1]; simp) n1
            have ei : yv = .int i := by cases (show Rp M1 yv (.int i) from r1.1); rfl
            subst ei
            have ra2 := (ra.mono go1.m).mono go2.m
            refine ⟨l, vs, i, xv, rfl, rfl, hl2, by rw [ra.length, sizeLine_eq]; exact hz.2.2, hz.1, by omega, ?_⟩
            have p3 : PostS G X.K W B M (.nx (τ.set k (some (.own (ds.take i.toNat ++ [d] ++ ds.drop i.toNat)))) S2) D := p2
            exact p3 σ M2 _ rs2 (go1.m.trans go2.m) (w2.set hl2 n2) (Slots.chg w2 s2 e hv hl2 n2 (((ra2.take _).append (.cons r2.1 .nil)).append (ra2.drop _)))
          · exact p2.elim
        · exact p2.elim
  · exact p.elim
end
end Pk
/-! Pk, part 8: defs by name, a law's end. -/
namespace Pk
open PySem L2 PySem.Spec PyProof.Rows
abbrev FnP (K : PySem.W.Frag) (x qual : Str) (st : Stmt) (f : Addr) (fd : FuncData) : Prop := FunD K x qual (defArgs st) (defBody st) (defScope st) [] [] f fd
structure DefAt (K : PySem.W.Frag) (mg : Str → Option Value) (x : Str) (st : Stmt) : Prop where
  ex : ∃ f fd, FnP K x x st f fd ∧ mg x = some (.ref f)
structure MethAt (K : PySem.W.Frag) (C : Addr) (x qual : Str) (st : Stmt) : Prop where
  ex : ∃ f fd, FnP K x qual st f fd ∧ Meth K C x f
structure Good (P : Program) (w : World) (K : PySem.W.Frag) (mg : Str → Option Value) (base : Heap) (G : Gx) (k : Nat) (x : Str) (ps : List Str) (m : DF) : Prop where
  ex : ∃ f fd, Ok P w K mg base G k f fd ps m ∧ Binds K fd ps [] ∧ mg x = some (.ref f) ∧ PySem.W.keepIn K (.ref f) = true
structure GoodM (P : Program) (w : World) (K : PySem.W.Frag) (mg : Str → Option Value) (base : Heap) (G : Gx) (k : Nat) (x : Str) (ps : List Str) (m : DF) : Prop where
  ex : ∃ f fd, Ok P w K mg base G k f fd ps m ∧ Binds K fd ps [] ∧ Meth K G.C x f
section
variable {P : Program} {w : World} {K : PySem.W.Frag} {mg : Str → Option Value} {base : Heap} {G : Gx} {k : Nat} {x qual : Str} {N ps : List Str} {st : Stmt} {g : FS}
abbrev Body (P : Program) (w : World) (K : PySem.W.Frag) (mg : Str → Option Value) (base : Heap) (G : Gx) (k : Nat) (N : List Str) (qual : Str) (st : Stmt) (g : FS) : Prop :=
  ∀ (f : Addr) (cdv : Value) (A : Around) (outer : List Env) (s : Shared) (H : Hp) (E : XK), Room k (A.deeper (envOfC qual (defScope st) s.heap.objs.size f cdv)) → PBl (cxOf (L2.CX P w) P w K mg base N qual (defScope st) f cdv A outer s H E) G (fun cls d _ H => E cls d H) (defBody st) g
abbrev BindsOk (x qual : Str) (st : Stmt) (ps : List Str) : Prop := ∀ (kV doc pm : Value) (an : Option Addr) (cdv ct : Value) (us : List Value), us.length = ps.length → bindArgs (PySem.W.fnOf x qual (defArgs st) (defBody st) (defScope st) .none kV doc pm an cdv ct) ⟨us, []⟩ = pure (ps.zip us)
theorem good_def (F : DefAt K mg x st) (S : FnScope N ps (defScope st)) (b : BindsOk x x st ps) (hb : Body P w K mg base G k N x st g) : Good P w K mg base G (k + 1) x ps (defM N.length g) := by
  obtain ⟨f, fd, F, hm⟩ := F.ex
  exact ⟨f, fd, ok_def F S (hb f), F.bindsN b, hm, F.kp⟩
theorem good_meth (F : MethAt K G.C x qual st) (S : FnScope N ps (defScope st)) (b : BindsOk x qual st ps) (hb : Body P w K mg base G k N qual st g) : GoodM P w K mg base G (k + 1) x ps (defM N.length g) := by
  obtain ⟨f, fd, F, hm⟩ := F.ex
  exact ⟨f, fd, ok_def F S (hb f), F.bindsN b, hm⟩
end
section
variable {X : Cx} {G : Gx} {W : WX} {a : Expr} {es : List Expr} {ga : FA} {fe : FE} {pos : Pos} {k : Nat} {ps : List Str} {m : DF}
theorem c_call {n : Nat} {x : Str} {p : Pos} (F : Good X.prog X.w X.K X.mg X.base G k x ps m) (hr : Room k X.A) (tk : Takes X W) (ha : PAs X G W (a :: es) ga) (hg : Gl X x := by rfl) (hdb : (x == ("__debug__" : Str)) = false := by decide)
    (he : starEach (a :: es) X.env = (false, eval a X.env) :: starEach es X.env := by rfl) (hpl : (backTo pos (starEach es X.env)).any (·.1) = false := by rfl) (hn : ps.length = n := by rfl) : PD X G W (.Call (.Name x p) (a :: es) [] pos) (dCall n m ga) := by
  subst hn
  obtain ⟨f, fd, F, b, hm, hk⟩ := F.ex
  exact d_call F hr hg hm hk b tk ha hdb he hpl
theorem c_meth {n : Nat} {x : Str} {apos : Pos} {o : Expr} {pl : Sem Bool} (F : GoodM X.prog X.w X.K X.mg X.base G k x ps m) (c : Cls X.K G.C) (ho : PP X G W o fe) (hr : Room k X.A) (tk : Takes X W) (ha : PAs X G W (a :: es) ga)
    (h1 : (x == ("shelves" : Str)) = false := by decide) (h2 : (x == ("boxes" : Str)) = false := by decide) (h3 : (x == ("places" : Str)) = false := by decide)
    (he : starEach (a :: es) X.env = (false, eval a X.env) :: starEach es X.env := by rfl) (hpl : (backTo pos (starEach es X.env)).any (·.1) = false := by rfl)
    (ht : eval (.Call (.Attribute o x apos) (a :: es) [] pos) X.env = (do
      let ov ← eval o X.env
      standAt apos.atName
      let (f, first) ← holding [ov] (getMethod ov x pl)
      callWith pos f first (backTo pos (starEach (a :: es) X.env)) (backToKw pos (keywordEach [] X.env))) := by rfl) (hn : ps.length = n := by rfl) : PD X G W (.Call (.Attribute o x apos) (a :: es) [] pos) (dMeth n m fe ga) := by
  subst hn
  obtain ⟨f, fd, F, b, hm⟩ := F.ex
  exact d_meth (pl := pl) ho c hm F hr b tk ha h1 h2 h3 he hpl ht
theorem c_meth0 {n : Nat} {x : Str} {apos : Pos} {o : Expr} {pl : Sem Bool} (F : GoodM X.prog X.w X.K X.mg X.base G k x ps m) (c : Cls X.K G.C) (ho : PP X G W o fe) (hr : Room k X.A) (tk : Takes X W)
    (h1 : (x == ("shelves" : Str)) = false := by decide) (h2 : (x == ("boxes" : Str)) = false := by decide) (h3 : (x == ("places" : Str)) = false := by decide)
    (ht : eval (.Call (.Attribute o x apos) [] [] pos) X.env = (do
      let ov ← eval o X.env
      standAt apos.atName
      let (f, first) ← holding [ov] (getMethod ov x pl)
      callWith pos f first (backTo pos (starEach [] X.env)) (backToKw pos (keywordEach [] X.env))) := by rfl) (hn : ps.length = n := by rfl) : PD X G W (.Call (.Attribute o x apos) [] [] pos) (dMeth n m fe aNil) := by
  subst hn
  obtain ⟨f, fd, F, b, hm⟩ := F.ex
  exact d_meth0 (pl := pl) ho c hm F hr b tk h1 h2 h3 ht
end
/-! ### the law -/
/-- the law's meaning ends in True -/
def Holds (m : DF) : Prop := ∀ ns : List Int, ns.length ≤ 63 → ∃ S, m [.scr ns] [] = .ok (.val (.bool true)) S
theorem law_end {K : PySem.W.Frag} {G : Gx} {m : DF} (h : Holds m) (H : Hp) (a : Addr) (ns : List Int) (hl : ns.length ≤ 63) (hS : SqL K H a (ns.map V.int)) (ho : PySem.W.Frag → True := fun _ => trivial)
    (hH : ∀ b u, H b = some u → True := fun _ _ _ => trivial) : spOf K G 1 m [.ref a] H (fun v _ => v = .bl true) fun _ _ _ => False := by
  obtain ⟨S, e⟩ := h ns hl
  refine ⟨H, [], [], [.scr ns], ⟨Same.refl _, rfl, fun i r s h => by simp at h, fun a h => by simp [foot] at h, by simp [foot]⟩, .cons ⟨a, rfl, hS⟩ .nil, rfl, rfl, ?_⟩
  rw [e]
  intro v M' H' rs' go wd r
  cases (show Rp M' v (.bool true) from r.1)
  rfl
theorem to0 {P : Program} {w : World} {K : PySem.W.Frag} {mg : Str → Option Value} {base : Heap} {k : Nat} {f : Addr} {fd : FuncData} {ps : List Str} {sp : Sp} (F : FnOk P w K mg base (L2.CX P w) k f fd ps sp) : FnOk P w K mg base CX0 k f fd ps (fun vs H Q _ => sp vs H Q fun _ _ _ => False) :=
  ⟨fun vs H Q E h => F.len vs H Q _ h, fun A outer s H args us vs Q E hr he hb hv hs => codeAny_mono (F.run A outer s H args us vs Q (fun _ _ _ => False) hr he hb hv hs) fun r s' hq => by
    cases r with
    | ok fl => cases fl <;> exact hq
    | error e =>
      obtain ⟨_, _, _, _, _, _, _, _, _, _, _, _, z⟩ := (show L2.CX P w outer H s (fun _ _ _ => False) e s' from hq)
      exact z.elim⟩
theorem law_fin {P : Program} {w : World} {K : PySem.W.Frag} {mg : Str → Option Value} {G : Gx} {k : Nat} {N : List Str} {st : Stmt} {g : FS} {fa : Addr} (D : DefAt K mg "law" st) (hm : mg ("law" : Str) = some (.ref fa)) (S : FnScope N ["_law_script"] (defScope st)) (b : BindsOk "law" "law" st ["_law_script"])
    (hb : ∀ base : Heap, K.In base → base.Ns mainGlobals mg → Body P w K mg base G k N "law" st g) (hH : Holds (defM N.length g)) :
    ∃ (fd : FuncData) (sp : Sp), (∀ (s : Shared) (u : Value), BindsTo s fd ⟨[u], []⟩ [("_law_script", u)]) ∧ (∀ (H : Hp) (a : Addr) (ns : List Int), ns.length ≤ 63 → Only H → SqL K H a (ns.map V.int) → sp [.ref a] H (fun v _ => v = .bl true) fun _ _ _ => False) ∧
      ∀ base : Heap, K.In base → base.Ns mainGlobals mg → FnOk P w K mg base CX0 (k + 1) fa fd ["_law_script"] sp := by
  obtain ⟨f, fd, F, hm2⟩ := D.ex
  have e := hm.symm.trans hm2
  cases e
  have bb := FunD.bindsA (ps := ["_law_script"]) F b
  exact ⟨fd, fun vs H Q _ => spOf K G 1 (defM N.length g) vs H Q fun _ _ _ => False, fun s u => bb s [u] rfl, fun H a ns hl _ hS => law_end hH H a ns hl hS, fun base h1 h2 => to0 (ok_def F S (hb base h1 h2 fa))⟩
end Pk
/-! Pk, part 9: meanings run by rewriting. -/
namespace Pk
open PySem L2 PySem.Spec PyProof.Rows
section
variable {α β : Type} {k n : Nat} {f g h : FE} {fs gs : FS} {t u : FT} {fi : FI} {fa ga : FA} {τ τ' : Sl} {S S' : List RS} {x y z : Xv} {d e : D} {ds es : List D} {gd : GD} {m : DF} {c : Nat}
theorem eq_ok {a b : α} (h : a = b) : a = b := h
theorem r_ok {a : α} {q : α → List RS → Out β} : (Out.ok a S).bind q = q a S := eq_ok rfl
theorem r_bad {q : α → List RS → Out β} : (Out.bad : Out α).bind q = .bad := eq_ok rfl
theorem r_ex {q : α → List RS → Out β} : (Out.ex c S : Out α).bind q = .ex c S := eq_ok rfl
theorem s_ok {a : α} {q : α → List RS → OS} : bindS (Out.ok a S) τ q = q a S := eq_ok rfl
theorem s_ex {q : α → List RS → OS} : bindS (Out.ex c S : Out α) τ q = .ex c τ S := eq_ok rfl
theorem o_some' {a : α} : ofO (some a) S = .ok a S := eq_ok rfl
-- names
theorem run_pVar : pVar k τ S = (match τ[k]? with | some (some x) => .ok (nrm x) S | _ => .bad) := eq_ok rfl
theorem run_pC : pC d τ S = .ok (.val d) S := eq_ok rfl
theorem run_dC : dC d τ S = .ok (.val d) S := eq_ok rfl
def pEK (x : Xv) (S : List RS) : Out Xv := .ok (nrm x) S
theorem run_pE : pE f τ S = (f τ S).bind pEK := eq_ok rfl
theorem run_pEK : pEK x S = .ok (nrm x) S := eq_ok rfl
theorem nrm_val : nrm (.val d) = .val d := eq_ok rfl
theorem nrm_own : nrm (.own ds) = .val (.list ds) := eq_ok rfl
theorem nrm_brw : nrm (.brw ds) = .val (.list ds) := eq_ok rfl
theorem nrm_scr {ns : List Int} : nrm (.scr ns) = .scr ns := eq_ok rfl
theorem nrm_rack {i : Nat} : nrm (.rack i) = .rack i := eq_ok rfl
def dVarK (S : List RS) : Option (Option Xv) → Out Xv
  | some (some (.own _)) => .bad
  | some (some (.brw _)) => .bad
  | some (some x) => .ok x S
  | _ => .bad
theorem run_dVar : dVar k τ S = dVarK S τ[k]? := by unfold dVar dVarK; rfl
theorem dVarK_val : dVarK S (some (some (.val d))) = .ok (.val d) S := eq_ok rfl
theorem dVarK_rack {i : Nat} : dVarK S (some (some (.rack i))) = .ok (.rack i) S := eq_ok rfl
theorem dVarK_scr {ns : List Int} : dVarK S (some (some (.scr ns))) = .ok (.scr ns) S := eq_ok rfl
def pVarK (S : List RS) : Option (Option Xv) → Out Xv
  | some (some x) => .ok (nrm x) S
  | _ => .bad
theorem run_pVar' : pVar k τ S = pVarK S τ[k]? := by unfold pVar pVarK; rfl
theorem pVarK_some : pVarK S (some (some x)) = .ok (nrm x) S := eq_ok rfl
def aVarK (S : List RS) : Option (Option Xv) → Out Xv
  | some (some (.own ds)) => .ok (.brw ds) S
  | some (some x) => .ok x S
  | _ => .bad
theorem run_aVar : aVar k τ S = aVarK S τ[k]? := by unfold aVar aVarK; rfl
theorem aVarK_own : aVarK S (some (some (.own ds))) = .ok (.brw ds) S := eq_ok rfl
theorem aVarK_brw : aVarK S (some (some (.brw ds))) = .ok (.brw ds) S := eq_ok rfl
theorem aVarK_val : aVarK S (some (some (.val d))) = .ok (.val d) S := eq_ok rfl
theorem aVarK_rack {i : Nat} : aVarK S (some (some (.rack i))) = .ok (.rack i) S := eq_ok rfl
theorem aVarK_scr {ns : List Int} : aVarK S (some (some (.scr ns))) = .ok (.scr ns) S := eq_ok rfl
def dFK (x : Xv) (S : List RS) : Out Xv := match x with | .own ds => .ok (.val (.list ds)) S | x => .ok x S
theorem run_dF : dF f τ S = (f τ S).bind dFK := eq_ok rfl
theorem dFK_own : dFK (.own ds) S = .ok (.val (.list ds)) S := eq_ok rfl
theorem dFK_val : dFK (.val d) S = .ok (.val d) S := eq_ok rfl
-- operations
def opK2 (g : Xv → Xv → Option Xv) (d : Xv) (e : Xv) (S : List RS) : Out Xv := ofO (g d e) S
def opK1 (g : Xv → Xv → Option Xv) (fb : FE) (τ : Sl) (d : Xv) (S : List RS) : Out Xv := (fb τ S).bind (opK2 g d)
theorem run_dOp {q : Xv → Xv → Option Xv} : dOp q f g τ S = (f τ S).bind (opK1 q g τ) := eq_ok rfl
theorem run_opK1 {q : Xv → Xv → Option Xv} : opK1 q g τ x S = (g τ S).bind (opK2 q x) := eq_ok rfl
theorem run_opK2 {q : Xv → Xv → Option Xv} : opK2 q x y S = ofO (q x y) S := eq_ok rfl
theorem run_dAdd : dAdd = dOp gAdd := eq_ok rfl
theorem run_dSub : dSub = dOp (gI yes2 fun i j => .int (i - j)) := eq_ok rfl
theorem run_dMul : dMul = dOp (gI cMul fun i j => .int (i * j)) := eq_ok rfl
theorem run_dDiv : dDiv = dOp (gI cDiv fun i j => .int (i / j)) := eq_ok rfl
theorem run_dMod : dMod = dOp (gI cMod fun i j => .int (i % j)) := eq_ok rfl
theorem run_dPow : dPow = dOp (gI cPow fun i j => .int (i ^ j.toNat)) := eq_ok rfl
theorem run_dLt : dLt = dOp (gI yes2 fun i j => .bool (decide (i < j))) := eq_ok rfl
theorem run_dLe : dLe = dOp (gI yes2 fun i j => .bool (decide (i ≤ j))) := eq_ok rfl
theorem run_dGt : dGt = dOp (gI yes2 fun i j => .bool (decide (j < i))) := eq_ok rfl
theorem run_dGe : dGe = dOp (gI yes2 fun i j => .bool (decide (j ≤ i))) := eq_ok rfl
theorem run_dEq : dEq = dOp gEq := eq_ok rfl
theorem run_dNe : dNe = dOp gNe := eq_ok rfl
theorem run_dIsN : dIsN = dOp gIsN := eq_ok rfl
theorem run_dNotN : dNotN = dOp gNotN := eq_ok rfl
theorem run_dIx : dIx = dOp gIx := eq_ok rfl
theorem run_dIn : dIn = dOp (gIn false) := eq_ok rfl
theorem run_dNin : dNin = dOp (gIn true) := eq_ok rfl
theorem gI_yes {q : Int → Int → D} {i j : Int} : gI yes2 q (.val (.int i)) (.val (.int j)) = some (.val (q i j)) := eq_ok rfl
theorem gI_ok {C : Int → Int → Bool} {q : Int → Int → D} {i j : Int} (h : C i j = true) : gI C q (.val (.int i)) (.val (.int j)) = some (.val (q i j)) := if_pos h
theorem gI_mul {q : Int → Int → D} {i j : Int} (h : (-18446744073709551616 < i ∧ i < 18446744073709551616) ∨ (-18446744073709551616 < j ∧ j < 18446744073709551616)) : gI cMul q (.val (.int i)) (.val (.int j)) = some (.val (q i j)) := gI_ok (decide_eq_true h)
theorem gI_div {q : Int → Int → D} {i j : Int} (h : 0 < j ∧ j < 1073741824) : gI cDiv q (.val (.int i)) (.val (.int j)) = some (.val (q i j)) := gI_ok (decide_eq_true h)
theorem gI_mod {q : Int → Int → D} {i j : Int} (h : 0 < j) : gI cMod q (.val (.int i)) (.val (.int j)) = some (.val (q i j)) := gI_ok (decide_eq_true h)
theorem gI_106 : gI cPow (fun i j => .int (i ^ j.toNat)) (.val (.int 10)) (.val (.int 6)) = some (.val (.int 1000000)) := gI_ok (by decide)
theorem gI_109 : gI cPow (fun i j => .int (i ^ j.toNat)) (.val (.int 10)) (.val (.int 9)) = some (.val (.int 1000000000)) := gI_ok (by decide)
theorem gAdd_int {i j : Int} : gAdd (.val (.int i)) (.val (.int j)) = some (.val (.int (i + j))) := eq_ok rfl
theorem gAdd_str {a b : Str} (h : a.length + b.length ≤ 16777216) : gAdd (.val (.str a)) (.val (.str b)) = some (.val (.str (a ++ b))) := if_pos h
theorem gAdd_list (h : ds.length + es.length ≤ 16777216) : gAdd (.val (.list ds)) (.val (.list es)) = some (.own (ds ++ es)) := if_pos h
theorem gAdd_tup {a b : D} (h : (a :: ds).length + (b :: es).length ≤ 16777216) : gAdd (.val (.tuple (a :: ds))) (.val (.tuple (b :: es))) = some (.val (.tuple ((a :: ds) ++ (b :: es)))) := if_pos ⟨rfl, rfl, h⟩
theorem gEq_str {i j : Str} : gEq (.val (.str i)) (.val (.str j)) = some (.val (.bool (i == j))) := eq_ok rfl
theorem gNe_str {i j : Str} : gNe (.val (.str i)) (.val (.str j)) = some (.val (.bool (!(i == j)))) := eq_ok rfl
theorem gEq_val (h1 : SeqAt.shaped d = true) (h2 : SeqAt.shaped e = true) : gEq (.val d) (.val e) = some (.val (.bool (PyData.eqv d e))) := by
  unfold gEq
  split
  · rename_i a b e1 e2
    cases e1
    cases e2
    simp [PyData.eqv]
  · rename_i e1 e2
    cases e1
    cases e2
    rw [h1, h2]
    rfl
  · rename_i n1 n2
    exact (n2 d e rfl rfl).elim
theorem gNe_val (h1 : SeqAt.shaped d = true) (h2 : SeqAt.shaped e = true) : gNe (.val d) (.val e) = some (.val (.bool (!PyData.eqv d e))) := by
  unfold gNe
  split
  · rename_i a b e1 e2
    cases e1
    cases e2
    simp [PyData.eqv]
  · rename_i e1 e2
    cases e1
    cases e2
    rw [h1, h2]
    rfl
  · rename_i n1 n2
    exact (n2 d e rfl rfl).elim
theorem sh_int {i : Int} : SeqAt.shaped (.int i) = true := by simp [SeqAt.shaped, PyData.canLay0, PyData.depth]
theorem sh_bool {i : Bool} : SeqAt.shaped (.bool i) = true := by simp [SeqAt.shaped, PyData.canLay0, PyData.depth]
theorem sh_none : SeqAt.shaped .none = true := by simp [SeqAt.shaped, PyData.canLay0, PyData.depth]
theorem gEq_int {i j : Int} : gEq (.val (.int i)) (.val (.int j)) = some (.val (.bool (i == j))) := by rw [gEq_val sh_int sh_int]; simp [PyData.eqv]
theorem gNe_int {i j : Int} : gNe (.val (.int i)) (.val (.int j)) = some (.val (.bool (!(i == j)))) := by rw [gNe_val sh_int sh_int]; simp [PyData.eqv]
theorem gEq_bool {i j : Bool} : gEq (.val (.bool i)) (.val (.bool j)) = some (.val (.bool (i == j))) := by rw [gEq_val sh_bool sh_bool]; simp [PyData.eqv]
theorem gNe_bool {i j : Bool} : gNe (.val (.bool i)) (.val (.bool j)) = some (.val (.bool (!(i == j)))) := by rw [gNe_val sh_bool sh_bool]; simp [PyData.eqv]
theorem gIsN_val : gIsN (.val d) (.val .none) = some (.val (.bool (isNon d))) := eq_ok rfl
theorem gNotN_val : gNotN (.val d) (.val .none) = some (.val (.bool (!isNon d))) := eq_ok rfl
theorem isNon_none : isNon .none = true := eq_ok rfl
theorem isNon_int {i : Int} : isNon (.int i) = false := eq_ok rfl
theorem isNon_bool {i : Bool} : isNon (.bool i) = false := eq_ok rfl
theorem isNon_tup : isNon (.tuple ds) = false := eq_ok rfl
theorem isNon_list : isNon (.list ds) = false := eq_ok rfl
theorem isNon_str {i : Str} : isNon (.str i) = false := eq_ok rfl
theorem gIx_list {i : Int} : gIx (.val (.list ds)) (.val (.int i)) = (atI ds i).map .val := eq_ok rfl
theorem gIx_tup {i : Int} : gIx (.val (.tuple ds)) (.val (.int i)) = (atI ds i).map .val := eq_ok rfl
theorem gIx_scr {ns : List Int} {i : Int} : gIx (.scr ns) (.val (.int i)) = (atI ns i).map fun n => .val (.int n) := eq_ok rfl
theorem atI0 {a : α} {l : List α} : atI (a :: l) 0 = some a := by simp [atI, ixN]
theorem atI1 {a b : α} {l : List α} : atI (a :: b :: l) 1 = some b := by
  have e : ixN (a :: b :: l).length 1 = some 1 := by
    unfold ixN
    rw [if_pos (by decide), if_pos (by simp only [List.length_cons]; omega)]
    rfl
  unfold atI
  rw [e]
  rfl
theorem atI2 {a b c : α} {l : List α} : atI (a :: b :: c :: l) 2 = some c := by
  have e : ixN (a :: b :: c :: l).length 2 = some 2 := by
    unfold ixN
    rw [if_pos (by decide), if_pos (by simp only [List.length_cons]; omega)]
    rfl
  unfold atI
  rw [e]
  rfl
theorem atI3 {a b c d : α} {l : List α} : atI (a :: b :: c :: d :: l) 3 = some d := by
  have e : ixN (a :: b :: c :: d :: l).length 3 = some 3 := by
    unfold ixN
    rw [if_pos (by decide), if_pos (by simp only [List.length_cons]; omega)]
    rfl
  unfold atI
  rw [e]
  rfl
theorem atI4 {a b c d e' : α} {l : List α} : atI (a :: b :: c :: d :: e' :: l) 4 = some e' := by
  have e : ixN (a :: b :: c :: d :: e' :: l).length 4 = some 4 := by
    unfold ixN
    rw [if_pos (by decide), if_pos (by simp only [List.length_cons]; omega)]
    rfl
  unfold atI
  rw [e]
  rfl
theorem atI5 {a b c d e' f' : α} {l : List α} : atI (a :: b :: c :: d :: e' :: f' :: l) 5 = some f' := by
  have e : ixN (a :: b :: c :: d :: e' :: f' :: l).length 5 = some 5 := by
    unfold ixN
    rw [if_pos (by decide), if_pos (by simp only [List.length_cons]; omega)]
    rfl
  unfold atI
  rw [e]
  rfl
theorem map_some' {q : α → β} {a : α} : (some a).map q = some (q a) := eq_ok rfl
-- tests
def tVK (x : Xv) (S : List RS) : Out Bool := match x with | .val (.bool b) => .ok b S | _ => .bad
theorem run_tV : tV f τ S = (f τ S).bind tVK := eq_ok rfl
theorem run_tVK {b : Bool} : tVK (.val (.bool b)) S = .ok b S := eq_ok rfl
def andK (u : FT) (τ : Sl) (c : Bool) (S : List RS) : Out Bool := if c = true then u τ S else .ok false S
def orK (u : FT) (τ : Sl) (c : Bool) (S : List RS) : Out Bool := if c = true then .ok true S else u τ S
def notK (c : Bool) (S : List RS) : Out Bool := .ok (!c) S
theorem run_tAnd : tAnd2 t u τ S = (t τ S).bind (andK u τ) := eq_ok rfl
theorem run_tOr : tOr2 t u τ S = (t τ S).bind (orK u τ) := eq_ok rfl
theorem run_tNot : tNot1 t τ S = (t τ S).bind notK := eq_ok rfl
theorem run_notK {b : Bool} : notK b S = .ok (!b) S := eq_ok rfl
/-- where the second test answers too -/
theorem run_andK {b c : Bool} (h : u τ S = .ok c S) : andK u τ b S = .ok (b && c) S := by cases b <;> simp [andK, h]
theorem run_orK {b c : Bool} (h : u τ S = .ok c S) : orK u τ b S = .ok (b || c) S := by cases b <;> simp [orK, h]
theorem andK_true : andK u τ true S = u τ S := eq_ok rfl
theorem andK_false : andK u τ false S = .ok false S := eq_ok rfl
theorem orK_true : orK u τ true S = .ok true S := eq_ok rfl
theorem orK_false : orK u τ false S = u τ S := eq_ok rfl
def dAndK (g : FE) (τ : Sl) (x : Xv) (S : List RS) : Out Xv := match x with
  | .val (.bool true) => g τ S
  | .val (.bool false) => .ok (.val (.bool false)) S
  | _ => .bad
def dOrK (g : FE) (τ : Sl) (x : Xv) (S : List RS) : Out Xv := match x with
  | .val (.bool false) => g τ S
  | .val (.bool true) => .ok (.val (.bool true)) S
  | _ => .bad
def dNotK (x : Xv) (S : List RS) : Out Xv := match x with
  | .val (.bool b) => .ok (.val (.bool (!b))) S
  | _ => .bad
theorem run_dAnd : dAnd f g τ S = (f τ S).bind (dAndK g τ) := eq_ok rfl
theorem run_dOr : dOr f g τ S = (f τ S).bind (dOrK g τ) := eq_ok rfl
theorem run_dNot : dNot f τ S = (f τ S).bind dNotK := eq_ok rfl
theorem dAndK_t : dAndK g τ (.val (.bool true)) S = g τ S := eq_ok rfl
theorem dAndK_f : dAndK g τ (.val (.bool false)) S = .ok (.val (.bool false)) S := eq_ok rfl
theorem dOrK_t : dOrK g τ (.val (.bool true)) S = .ok (.val (.bool true)) S := eq_ok rfl
theorem dOrK_f : dOrK g τ (.val (.bool false)) S = g τ S := eq_ok rfl
theorem dAndK_if {b : Bool} : dAndK g τ (.val (.bool b)) S = cond b (g τ S) (.ok (.val (.bool false)) S) := by cases b <;> rfl
theorem dOrK_if {b : Bool} : dOrK g τ (.val (.bool b)) S = cond b (.ok (.val (.bool true)) S) (g τ S) := by cases b <;> rfl
theorem mg_and {b c : Bool} : cond b (Out.ok (Xv.val (.bool c)) S) (Out.ok (Xv.val (.bool false)) S) = Out.ok (Xv.val (.bool (b && c))) S := by cases b <;> rfl
theorem mg_or {b c : Bool} : cond b (Out.ok (Xv.val (.bool true)) S) (Out.ok (Xv.val (.bool c)) S) = Out.ok (Xv.val (.bool (b || c))) S := by cases b <;> rfl
theorem andK_if {b : Bool} : andK u τ b S = cond b (u τ S) (.ok false S) := by cases b <;> rfl
theorem orK_if {b : Bool} : orK u τ b S = cond b (.ok true S) (u τ S) := by cases b <;> rfl
theorem mgT_and {b c : Bool} : cond b (Out.ok c S) (Out.ok false S) = Out.ok (b && c) S := by cases b <;> rfl
theorem mgT_or {b c : Bool} : cond b (Out.ok true S) (Out.ok c S) = Out.ok (b || c) S := by cases b <;> rfl
theorem dNotK_b {b : Bool} : dNotK (.val (.bool b)) S = .ok (.val (.bool (!b))) S := eq_ok rfl
/-- where the second one answers too -/
theorem dAndK_ok {b c : Bool} (h : g τ S = .ok (.val (.bool c)) S) : dAndK g τ (.val (.bool b)) S = .ok (.val (.bool (b && c))) S := by cases b <;> simp [dAndK, h]
theorem dOrK_ok {b c : Bool} (h : g τ S = .ok (.val (.bool c)) S) : dOrK g τ (.val (.bool b)) S = .ok (.val (.bool (b || c))) S := by cases b <;> simp [dOrK, h]
def negK (x : Xv) (S : List RS) : Out Xv := ofO (gNeg x) S
theorem run_dNeg : dNeg f τ S = (f τ S).bind negK := eq_ok rfl
theorem negK_int {i : Int} : negK (.val (.int i)) S = .ok (.val (.int (-i))) S := eq_ok rfl
-- argument lists, displays
def consK2 (x : Xv) (xs : List Xv) (S : List RS) : Out (List Xv) := .ok (x :: xs) S
def consK1 (g : FA) (τ : Sl) (x : Xv) (S : List RS) : Out (List Xv) := (g τ S).bind (consK2 x)
theorem run_aNil : aNil τ S = .ok [] S := eq_ok rfl
theorem run_aCons : aCons f ga τ S = (f τ S).bind (consK1 ga τ) := eq_ok rfl
theorem run_consK1 : consK1 ga τ x S = (ga τ S).bind (consK2 x) := eq_ok rfl
theorem run_consK2 {xs : List Xv} : consK2 x xs S = .ok (x :: xs) S := eq_ok rfl
def tupK (xs : List Xv) (S : List RS) : Out Xv := match allD xs with | some ds => if ds.length ≤ 16777216 then .ok (.val (.tuple ds)) S else .bad | none => .bad
def lstK (xs : List Xv) (S : List RS) : Out Xv := match allD xs with | some ds => if ds.length ≤ 16777216 then .ok (.own ds) S else .bad | none => .bad
theorem run_dTup : dTup ga τ S = (ga τ S).bind tupK := eq_ok rfl
theorem run_dLst : dLst ga τ S = (ga τ S).bind lstK := eq_ok rfl
theorem tupK_ok (xs : List Xv) (ds : List D) (h : allD xs = some ds) (hl : ds.length ≤ 16777216) : tupK xs S = .ok (.val (.tuple ds)) S := by unfold tupK; rw [h]; exact if_pos hl
theorem tupK0 : tupK [] S = .ok (.val (.tuple [])) S := eq_ok rfl
theorem tupK1 {a : D} : tupK [.val a] S = .ok (.val (.tuple [a])) S := eq_ok rfl
theorem tupK2 {a b : D} : tupK [.val a, .val b] S = .ok (.val (.tuple [a, b])) S := eq_ok rfl
theorem tupK3 {a b c : D} : tupK [.val a, .val b, .val c] S = .ok (.val (.tuple [a, b, c])) S := eq_ok rfl
theorem tupK4 {a b c d : D} : tupK [.val a, .val b, .val c, .val d] S = .ok (.val (.tuple [a, b, c, d])) S := eq_ok rfl
theorem tupK5 {a b c d e : D} : tupK [.val a, .val b, .val c, .val d, .val e] S = .ok (.val (.tuple [a, b, c, d, e])) S := eq_ok rfl
theorem tupK6 {a b c d e f : D} : tupK [.val a, .val b, .val c, .val d, .val e, .val f] S = .ok (.val (.tuple [a, b, c, d, e, f])) S := eq_ok rfl
theorem lstK0 : lstK [] S = .ok (.own []) S := eq_ok rfl
theorem lstK1 {a : D} : lstK [.val a] S = .ok (.own [a]) S := eq_ok rfl
theorem lstK2 {a b : D} : lstK [.val a, .val b] S = .ok (.own [a, b]) S := eq_ok rfl
theorem lstK3 {a b c : D} : lstK [.val a, .val b, .val c] S = .ok (.own [a, b, c]) S := eq_ok rfl
theorem lstK4 {a b c d : D} : lstK [.val a, .val b, .val c, .val d] S = .ok (.own [a, b, c, d]) S := eq_ok rfl
theorem lstK5 {a b c d e : D} : lstK [.val a, .val b, .val c, .val d, .val e] S = .ok (.own [a, b, c, d, e]) S := eq_ok rfl
theorem lstK6 {a b c d e f : D} : lstK [.val a, .val b, .val c, .val d, .val e, .val f] S = .ok (.own [a, b, c, d, e, f]) S := eq_ok rfl
-- built-ins
def bK (q : List Xv → Option Xv) (xs : List Xv) (S : List RS) : Out Xv := ofO (q xs) S
theorem run_dB {q : List Xv → Option Xv} : dB q fa τ S = (fa τ S).bind (bK q) := eq_ok rfl
theorem run_bK {q : List Xv → Option Xv} {xs : List Xv} : bK q xs S = ofO (q xs) S := eq_ok rfl
theorem run_dLen : dLen f = dB gLen (aCons f aNil) := eq_ok rfl
theorem run_dList : dList f = dB gList (aCons f aNil) := eq_ok rfl
theorem run_dTuple : dTuple f = dB gTuple (aCons f aNil) := eq_ok rfl
theorem run_dInt : dInt f = dB gInt (aCons f aNil) := eq_ok rfl
theorem run_dStr : dStr f = dB gStr (aCons f aNil) := eq_ok rfl
theorem run_dSorted : dSorted f = dB gSorted (aCons f aNil) := eq_ok rfl
theorem run_dMax : dMax f g = dB gMax (aCons f (aCons g aNil)) := eq_ok rfl
theorem run_dMin : dMin f g = dB gMin (aCons f (aCons g aNil)) := eq_ok rfl
theorem gLen_list : gLen [.val (.list ds)] = some (.val (.int ds.length)) := eq_ok rfl
theorem gLen_tup : gLen [.val (.tuple ds)] = some (.val (.int ds.length)) := eq_ok rfl
theorem gLen_scr {ns : List Int} : gLen [.scr ns] = some (.val (.int ns.length)) := eq_ok rfl
theorem gLen_str {s : Str} (h : s.length ≤ 16777216) : gLen [.val (.str s)] = some (.val (.int s.length)) := if_pos h
theorem gList_list : gList [.val (.list ds)] = some (.own ds) := eq_ok rfl
theorem gTuple_list : gTuple [.val (.list ds)] = some (.val (.tuple ds)) := eq_ok rfl
theorem gMax_int {i j : Int} : gMax [.val (.int i), .val (.int j)] = some (.val (.int (if j > i then j else i))) := eq_ok rfl
theorem gMin_int {i j : Int} : gMin [.val (.int i), .val (.int j)] = some (.val (.int (if j < i then j else i))) := eq_ok rfl
theorem gInt_bool {b : Bool} : gInt [.val (.bool b)] = some (.val (.int (b2i b))) := eq_ok rfl
theorem gInt_int {b : Int} : gInt [.val (.int b)] = some (.val (.int b)) := eq_ok rfl
theorem gSorted_int {ns : List Int} : gSorted [.val (.list (ns.map .int))] = some (.own ((sortI ns).map .int)) := by
  have h : ∀ l : List Int, intsD (l.map .int) = some l := fun l => by
    induction l with
    | nil => rfl
    | cons a l ih => simp [intsD, ih]
  simp [gSorted, h]
def isiK (t : Ty) (x : Xv) (S : List RS) : Out Xv := ofO (gIsi t x) S
theorem run_dIsi {t : Ty} : dIsi t f τ S = (f τ S).bind (isiK t) := eq_ok rfl
theorem isiK_none {t : Ty} : isiK t (.val .none) S = .ok (.val (.bool false)) S := by cases t <;> rfl
theorem isiK_int {t : Ty} {i : Int} : isiK t (.val (.int i)) S = .ok (.val (.bool (isiD t (.int i)))) S := eq_ok rfl
theorem isiK_bool {t : Ty} {i : Bool} : isiK t (.val (.bool i)) S = .ok (.val (.bool (isiD t (.bool i)))) S := eq_ok rfl
theorem isiK_str {t : Ty} {i : Str} : isiK t (.val (.str i)) S = .ok (.val (.bool (isiD t (.str i)))) S := eq_ok rfl
theorem isiK_tup {t : Ty} : isiK t (.val (.tuple ds)) S = .ok (.val (.bool (isiD t (.tuple ds)))) S := eq_ok rfl
theorem isiK_list {t : Ty} : isiK t (.val (.list ds)) S = .ok (.val (.bool (isiD t (.list ds)))) S := eq_ok rfl
theorem isiD_ii {i : Int} : isiD .int (.int i) = true := eq_ok rfl
theorem isiD_ib {i : Bool} : isiD .int (.bool i) = true := eq_ok rfl
theorem isiD_bb {i : Bool} : isiD .bool (.bool i) = true := eq_ok rfl
theorem isiD_bi {i : Int} : isiD .bool (.int i) = false := eq_ok rfl
theorem isiD_ss {i : Str} : isiD .str (.str i) = true := eq_ok rfl
theorem isiD_tt : isiD .tuple (.tuple ds) = true := eq_ok rfl
theorem isiD_ll : isiD .list (.list ds) = true := eq_ok rfl
theorem isiD_tn : isiD .tuple .none = false := eq_ok rfl
theorem isiD_in : isiD .int .none = false := eq_ok rfl
theorem isiD_bn : isiD .bool .none = false := eq_ok rfl
-- slices
def slK3 (x : Xv) (l : Option Int) (u : Option Int) (S : List RS) : Out Xv := ofO (gSl l u x) S
def slK2 (x : Xv) (hi : FO) (τ : Sl) (l : Option Int) (S : List RS) : Out Xv := (hi τ S).bind (slK3 x l)
def slK1 (lo hi : FO) (τ : Sl) (x : Xv) (S : List RS) : Out Xv := (lo τ S).bind (slK2 x hi τ)
theorem run_dSl {lo hi : FO} : dSl f lo hi τ S = (f τ S).bind (slK1 lo hi τ) := eq_ok rfl
theorem run_slK1 {lo hi : FO} : slK1 lo hi τ x S = (lo τ S).bind (slK2 x hi τ) := eq_ok rfl
theorem run_slK2 {hi : FO} {l : Option Int} : slK2 x hi τ l S = (hi τ S).bind (slK3 x l) := eq_ok rfl
theorem run_slK3 {l u : Option Int} : slK3 x l u S = ofO (gSl l u x) S := eq_ok rfl
theorem run_oNone : oNone τ S = .ok none S := eq_ok rfl
def oSomeK (x : Xv) (S : List RS) : Out (Option Int) := match x with | .val (.int i) => .ok (some i) S | _ => .bad
theorem run_oSome : oSome f τ S = (f τ S).bind oSomeK := eq_ok rfl
theorem run_oSomeK {i : Int} : oSomeK (.val (.int i)) S = .ok (some i) S := eq_ok rfl
theorem gSl_list {l u : Option Int} : gSl l u (.val (.list ds)) = some (.own (cutD ds l u)) := eq_ok rfl
theorem gSl_tup {l u : Option Int} : gSl l u (.val (.tuple ds)) = some (.val (.tuple (cutD ds l u))) := eq_ok rfl
theorem gSl_scr {l u : Option Int} {ns : List Int} : gSl l u (.scr ns) = some (.own ((cutD ns l u).map .int)) := eq_ok rfl
-- calls
def callK (n : Nat) (m : DF) (xs : List Xv) (S : List RS) : Out Xv := if xs.length = n ∧ noOwn xs = true then m xs S else .bad
theorem run_dCall : dCall n m fa τ S = (fa τ S).bind (callK n m) := eq_ok rfl
theorem callK_ok {xs : List Xv} (h : Nat.beq xs.length n = true) (h2 : noOwn xs = true) : callK n m xs S = m xs S := if_pos ⟨Nat.eq_of_beq_eq_true h, h2⟩
theorem noOwn_nil : noOwn [] = true := eq_ok rfl
theorem noOwn_val {xs : List Xv} : noOwn (.val d :: xs) = noOwn xs := eq_ok rfl
theorem noOwn_brw {xs : List Xv} : noOwn (.brw ds :: xs) = noOwn xs := eq_ok rfl
theorem noOwn_scr {xs : List Xv} {ns : List Int} : noOwn (.scr ns :: xs) = noOwn xs := eq_ok rfl
theorem noOwn_rack {xs : List Xv} {i : Nat} : noOwn (.rack i :: xs) = noOwn xs := eq_ok rfl
def methK2 (n : Nat) (m : DF) (i : Nat) (xs : List Xv) (S : List RS) : Out Xv := if xs.length + 1 = n ∧ noOwn xs = true then m (.rack i :: xs) S else .bad
def methK1 (n : Nat) (m : DF) (fa : FA) (τ : Sl) (o : Xv) (S : List RS) : Out Xv := match o with
  | .rack i => (fa τ S).bind (methK2 n m i)
  | _ => .bad
theorem run_dMeth : dMeth n m f fa τ S = (f τ S).bind (methK1 n m fa τ) := eq_ok rfl
theorem run_methK1 {i : Nat} : methK1 n m fa τ (.rack i) S = (fa τ S).bind (methK2 n m i) := eq_ok rfl
theorem methK2_ok {xs : List Xv} {i : Nat} (h : Nat.beq (xs.length + 1) n = true) (h2 : noOwn xs = true) : methK2 n m i xs S = m (.rack i :: xs) S := if_pos ⟨Nat.eq_of_beq_eq_true h, h2⟩
-- statements
def seqK (g : FS) (o : OS) : OS := match o with | .nx τ S => g τ S | o => o
theorem run_sSeq : sSeq fs gs τ S = seqK gs (fs τ S) := eq_ok rfl
theorem seqK_nx : seqK gs (.nx τ S) = gs τ S := eq_ok rfl
theorem seqK_rt : seqK gs (.rt x S) = .rt x S := eq_ok rfl
theorem seqK_bk : seqK gs (.bk τ S) = .bk τ S := eq_ok rfl
theorem seqK_ex : seqK gs (.ex c τ S) = .ex c τ S := eq_ok rfl
theorem run_sNil : sNil τ S = .nx τ S := eq_ok rfl
def setK (k : Nat) (τ : Sl) (x : Xv) (S : List RS) : OS := if k < τ.length ∧ brwNot x = true then .nx (τ.set k (some x)) S else .bad
theorem run_sSet : sSet k f τ S = bindS (f τ S) τ (setK k τ) := eq_ok rfl
theorem blt_of {a b : Nat} (h : Nat.blt a b = true) : a < b := Nat.le_of_ble_eq_true h
theorem setK_val (h : Nat.blt k τ.length = true) : setK k τ (.val d) S = .nx (τ.set k (some (.val d))) S := if_pos ⟨blt_of h, rfl⟩
theorem setK_own (h : Nat.blt k τ.length = true) : setK k τ (.own ds) S = .nx (τ.set k (some (.own ds))) S := if_pos ⟨blt_of h, rfl⟩
theorem setK_rack {i : Nat} (h : Nat.blt k τ.length = true) : setK k τ (.rack i) S = .nx (τ.set k (some (.rack i))) S := if_pos ⟨blt_of h, rfl⟩
def retK (x : Xv) (S : List RS) : OS := if brwNot x = true then .rt x S else .bad
theorem run_sRet : sRet f τ S = bindS (f τ S) τ retK := eq_ok rfl
theorem retK_val : retK (.val d) S = .rt (.val d) S := eq_ok rfl
theorem retK_own : retK (.own ds) S = .rt (.own ds) S := eq_ok rfl
theorem retK_rack {i : Nat} : retK (.rack i) S = .rt (.rack i) S := eq_ok rfl
def retVK (S : List RS) : Option (Option Xv) → OS
  | some (some x) => retK x S
  | _ => .bad
theorem run_sRetV : sRetV k τ S = retVK S τ[k]? := by unfold sRetV retVK retK; rfl
theorem retVK_some : retVK S (some (some x)) = retK x S := eq_ok rfl
theorem run_sRetN : sRetN τ S = .rt (.val .none) S := eq_ok rfl
def expK (τ : Sl) (_ : Xv) (S : List RS) : OS := .nx τ S
theorem run_sExp : sExp f τ S = bindS (f τ S) τ (expK τ) := eq_ok rfl
theorem run_expK : expK τ x S = .nx τ S := eq_ok rfl
def ifK (f g : FS) (τ : Sl) (b : Bool) (S : List RS) : OS := if b = true then f τ S else g τ S
theorem run_sIf : sIf t fs gs τ S = bindS (t τ S) τ (ifK fs gs τ) := eq_ok rfl
theorem ifK_t : ifK fs gs τ true S = fs τ S := eq_ok rfl
theorem ifK_f : ifK fs gs τ false S = gs τ S := eq_ok rfl
theorem run_sBrk : sBrk τ S = .bk τ S := eq_ok rfl
def frzK (k : Nat) (g : FS) (τ : Sl) (S : List RS) : Option (Option Xv) → OS
  | some (some (.own ds)) => g (τ.set k (some (.val (.list ds)))) S
  | _ => g τ S
theorem run_sFrz : sFrz k gs τ S = frzK k gs τ S τ[k]? := by unfold sFrz frzK; rfl
theorem frzK_own : frzK k gs τ S (some (some (.own ds))) = gs (τ.set k (some (.val (.list ds)))) S := eq_ok rfl
theorem frzK_val : frzK k gs τ S (some (some (.val d))) = gs τ S := eq_ok rfl
theorem frzK_brw : frzK k gs τ S (some (some (.brw ds))) = gs τ S := eq_ok rfl
def appK (k : Nat) (τ : Sl) (ds : List D) (x : Xv) (S : List RS) : OS := match x with | .val d => if ds.length < 16777216 then .nx (τ.set k (some (.own (ds ++ [d])))) S else .bad | _ => .bad
def appK0 (k : Nat) (f : FE) (τ : Sl) (S : List RS) : Option (Option Xv) → OS
  | some (some (.own ds)) => bindS (f τ S) τ (appK k τ ds)
  | _ => .bad
theorem run_sApp : sApp k f τ S = appK0 k f τ S τ[k]? := by unfold sApp appK0; rfl
theorem appK0_own : appK0 k f τ S (some (some (.own ds))) = bindS (f τ S) τ (appK k τ ds) := eq_ok rfl
theorem appK_val (h : ds.length < 16777216) : appK k τ ds (.val d) S = .nx (τ.set k (some (.own (ds ++ [d])))) S := if_pos h
def unpK (ks : List Nat) (τ : Sl) (x : Xv) (S : List RS) : OS := match x with
  | .val (.tuple ds) => (match gNs ks ds τ with | some τ' => .nx τ' S | none => .bad)
  | _ => .bad
theorem run_sUnp {ks : List Nat} : sUnp ks f τ S = bindS (f τ S) τ (unpK ks τ) := eq_ok rfl
def nsK (S : List RS) : Option Sl → OS
  | some τ' => .nx τ' S
  | none => .bad
theorem run_unpK {ks : List Nat} : unpK ks τ (.val (.tuple ds)) S = nsK S (gNs ks ds τ) := by unfold unpK nsK; rfl
theorem nsK_some : nsK S (some τ) = .nx τ S := eq_ok rfl
theorem gNs_nil : gNs [] [] τ = some τ := eq_ok rfl
theorem gNs_cons {ks : List Nat} (h : Nat.blt k τ.length = true) : gNs (k :: ks) (d :: ds) τ = gNs ks ds (τ.set k (some (.val d))) := by
  show (gN k d τ).bind (gNs ks ds) = _
  unfold gN
  rw [if_pos (blt_of h)]
  rfl
def unpLK (ks : List Nat) (τ : Sl) (S : List RS) : Option (Option Xv) → OS
  | some (some (.own ds)) => (match gNs ks ds τ with | some τ' => .nx τ' S | none => .bad)
  | _ => .bad
theorem run_sUnpL {ks : List Nat} : sUnpL ks k τ S = unpLK ks τ S τ[k]? := by unfold sUnpL unpLK; rfl
theorem unpLK_own {ks : List Nat} : unpLK ks τ S (some (some (.own ds))) = nsK S (gNs ks ds τ) := by unfold unpLK nsK; rfl
def stiK4 (k : Nat) (τ : Sl) (ds : List D) (d : D) (S : List RS) : Option Nat → OS
  | some j => .nx (τ.set k (some (.own (ds.set j d)))) S
  | none => .bad
def stiK3 (k : Nat) (τ : Sl) (ds : List D) (d : D) (y : Xv) (S : List RS) : OS := match y with
  | .val (.int n) => stiK4 k τ ds d S (ixN ds.length n)
  | _ => .bad
def stiK2 (k : Nat) (i : FE) (τ : Sl) (S : List RS) (x : Xv) : Option (Option Xv) → OS
  | some (some (.own ds)) => (match x with | .val d => bindS (i τ S) τ (stiK3 k τ ds d) | _ => .bad)
  | _ => .bad
def stiK1 (k : Nat) (i : FE) (τ : Sl) (x : Xv) (S : List RS) : OS := stiK2 k i τ S x τ[k]?
theorem run_sStI : sStI k g f τ S = bindS (f τ S) τ (stiK1 k g τ) := by
  unfold sStI
  have e : ∀ x S1, (match τ[k]?, x with
    | some (some (.own ds)), .val d => bindS (g τ S1) τ fun y S2 => (match y with
      | .val (.int n) => (match ixN ds.length n with | some j => OS.nx (τ.set k (some (.own (ds.set j d)))) S2 | none => .bad)
      | _ => .bad)
    | _, _ => .bad) = stiK1 k g τ x S1 := by
    intro x S1
    unfold stiK1 stiK2
    cases τ[k]? with
    | none => rfl
    | some o =>
      cases o with
      | none => rfl
      | some z => cases z <;> cases x <;> rfl
  congr 1
  funext x S1
  exact e x S1
theorem run_stiK1 : stiK1 k g τ x S = stiK2 k g τ S x τ[k]? := eq_ok rfl
theorem stiK2_own : stiK2 k g τ S (.val d) (some (some (.own ds))) = bindS (g τ S) τ (stiK3 k τ ds d) := eq_ok rfl
theorem stiK3_int {i : Int} : stiK3 k τ ds d (.val (.int i)) S = stiK4 k τ ds d S (ixN ds.length i) := eq_ok rfl
theorem stiK4_some : stiK4 k τ ds d S (some n) = .nx (τ.set k (some (.own (ds.set n d)))) S := eq_ok rfl
-- insert
def insK (k : Nat) (τ : Sl) (ds : List D) (z : Int × D) (S : List RS) : OS := .nx (τ.set k (some (.own (ds.take z.1.toNat ++ [z.2] ++ ds.drop z.1.toNat)))) S
def insK2 (ds : List D) (y x : Xv) (S : List RS) : Out (Int × D) := match y, x with
  | .val (.int n), .val d => if 0 ≤ n ∧ n < 4611686018427387904 ∧ ds.length < 16777216 then .ok (n, d) S else .bad
  | _, _ => .bad
def insK1 (f : FE) (τ : Sl) (ds : List D) (y : Xv) (S : List RS) : Out (Int × D) := (f τ S).bind (insK2 ds y)
def insK0 (k : Nat) (i f : FE) (τ : Sl) (S : List RS) : Option (Option Xv) → OS
  | some (some (.own ds)) => bindS ((i τ S).bind (insK1 f τ ds)) τ (insK k τ ds)
  | _ => .bad
theorem run_sIns : sIns k g f τ S = insK0 k g f τ S τ[k]? := by
  unfold sIns insK0
  cases τ[k]? with
  | none => rfl
  | some o =>
    cases o with
    | none => rfl
    | some z => cases z <;> rfl
theorem insK0_own : insK0 k g f τ S (some (some (.own ds))) = bindS ((g τ S).bind (insK1 f τ ds)) τ (insK k τ ds) := eq_ok rfl
theorem run_insK1 : insK1 f τ ds y S = (f τ S).bind (insK2 ds y) := eq_ok rfl
theorem insK2_ok {i : Int} (h : 0 ≤ i ∧ i < 4611686018427387904 ∧ ds.length < 16777216) : insK2 ds (.val (.int i)) (.val d) S = .ok (i, d) S := if_pos h
theorem run_insK {i : Int} : insK k τ ds (i, d) S = .nx (τ.set k (some (.own (ds.take i.toNat ++ [d] ++ ds.drop i.toNat)))) S := eq_ok rfl
-- loops
def forK (gd : GD) (f : FS) (τ : Sl) (ds : List D) (S : List RS) : OS := loopS gd f ds τ S
theorem run_sFor : sFor fi gd fs τ S = bindS (fi τ S) τ (forK gd fs τ) := eq_ok rfl
theorem run_forK : forK gd fs τ ds S = loopS gd fs ds τ S := eq_ok rfl
def loopK (gd : GD) (f : FS) (ds : List D) : OS → OS
  | .nx τ2 S2 => loopS gd f ds τ2 S2
  | .ct τ2 S2 => loopS gd f ds τ2 S2
  | .bk τ2 S2 => .nx τ2 S2
  | o => o
theorem loop_nil : loopS gd fs [] τ S = .nx τ S := eq_ok rfl
theorem loop_cons (h : gd d τ = some τ') : loopS gd fs (d :: ds) τ S = loopK gd fs ds (fs τ' S) := by
  show (match gd d τ with | none => _ | some τ1 => _) = _
  rw [h]
  unfold loopK
  rfl
theorem loop_consN (h : Nat.blt k τ.length = true) : loopS (gN k) fs (d :: ds) τ S = loopK (gN k) fs ds (fs (τ.set k (some (.val d))) S) := loop_cons (if_pos (blt_of h))
theorem loopK_nx : loopK gd fs ds (.nx τ S) = loopS gd fs ds τ S := eq_ok rfl
theorem loopK_bk : loopK gd fs ds (.bk τ S) = .nx τ S := eq_ok rfl
theorem loopK_rt : loopK gd fs ds (.rt x S) = .rt x S := eq_ok rfl
theorem loopK_ex : loopK gd fs ds (.ex c τ S) = .ex c τ S := eq_ok rfl
def iVK (S : List RS) : Option (Option Xv) → Out (List D)
  | some (some (.val (.list ds))) => .ok ds S
  | some (some (.brw ds)) => .ok ds S
  | some (some (.scr ns)) => .ok (ns.map .int) S
  | _ => .bad
theorem run_iV : iV k τ S = iVK S τ[k]? := by unfold iV iVK; rfl
theorem iVK_val : iVK S (some (some (.val (.list ds)))) = .ok ds S := eq_ok rfl
theorem iVK_brw : iVK S (some (some (.brw ds))) = .ok ds S := eq_ok rfl
def iEK (x : Xv) (S : List RS) : Out (List D) := match x with
  | .val (.list ds) => .ok ds S
  | .own ds => .ok ds S
  | .scr ns => .ok (ns.map .int) S
  | _ => .bad
theorem run_iE : iE f τ S = (f τ S).bind iEK := eq_ok rfl
theorem iEK_val : iEK (.val (.list ds)) S = .ok ds S := eq_ok rfl
theorem iEK_own : iEK (.own ds) S = .ok ds S := eq_ok rfl
def iR1K (xs : List Xv) (S : List RS) : Out (List D) := match xs with
  | [.val (.int j)] => if inR j then .ok (rangeD 0 j.toNat) S else .bad
  | _ => .bad
theorem run_iRange1 : iRange1 f τ S = (aCons f aNil τ S).bind iR1K := eq_ok rfl
theorem iR1K_ok {j : Int} (h : -4611686018427387904 ≤ j ∧ j < 4611686018427387904) : iR1K [.val (.int j)] S = .ok (rangeD 0 j.toNat) S := if_pos h
def iR2K (xs : List Xv) (S : List RS) : Out (List D) := match xs with
  | [.val (.int i), .val (.int j)] => if inR i ∧ inR j then .ok (rangeD i (j - i).toNat) S else .bad
  | _ => .bad
theorem run_iRange2 : iRange2 f g τ S = (aCons f (aCons g aNil) τ S).bind iR2K := eq_ok rfl
theorem iR2K_ok {i j : Int} (h : (-4611686018427387904 ≤ i ∧ i < 4611686018427387904) ∧ (-4611686018427387904 ≤ j ∧ j < 4611686018427387904)) : iR2K [.val (.int i), .val (.int j)] S = .ok (rangeD i (j - i).toNat) S := if_pos h
def iSK (x : Xv) (S : List RS) : Out (List D) := match x with
  | .val (.str z) => .ok (z.cps.toList.map fun c => .str ⟨#[c]⟩) S
  | _ => .bad
theorem run_iS : iS f τ S = (f τ S).bind iSK := eq_ok rfl
theorem iSK_str {s : Str} : iSK (.val (.str s)) S = .ok (s.cps.toList.map fun c => .str ⟨#[c]⟩) S := eq_ok rfl
def iEnK (xs : List Xv) (S : List RS) : Out (List D) := match xs with
  | [.val (.list ds)] => .ok (enumD 0 ds) S
  | _ => .bad
theorem run_iEnum1 : iEnum1 f τ S = (aCons f aNil τ S).bind iEnK := eq_ok rfl
theorem iEnK_list : iEnK [.val (.list ds)] S = .ok (enumD 0 ds) S := eq_ok rfl
theorem enumD_nil {i : Nat} : enumD i [] = [] := eq_ok rfl
theorem enumD_cons {i : Nat} : enumD i (d :: ds) = .tuple [.int (i : Nat), d] :: enumD (i + 1) ds := eq_ok rfl
def loopT (ks : List Nat) (f : FS) (ds : List D) (S : List RS) : Option Sl → OS
  | none => .bad
  | some τ1 => loopK (gTp ks) f ds (f τ1 S)
theorem loop_consT {ks : List Nat} {es : List D} : loopS (gTp ks) fs (.tuple es :: ds) τ S = loopT ks fs ds S (gNs ks es τ) := by
  have h : gTp ks (.tuple es) τ = gNs ks es τ := rfl
  cases e : gNs ks es τ with
  | none =>
    show (match gTp ks (.tuple es) τ with | none => OS.bad | some τ1 => _) = _
    rw [h, e]
    rfl
  | some τ1 =>
    rw [loop_cons (h.trans e)]
    rfl
theorem loopT_some {ks : List Nat} : loopT ks fs ds S (some τ') = loopK (gTp ks) fs ds (fs τ' S) := eq_ok rfl
-- comprehensions
def compK2 (acc : List D) (S : List RS) : Out Xv := .ok (.own acc) S
def compK1 (k : Nat) (t : FT) (f : FE) (τ : Sl) (ds : List D) (S : List RS) : Out Xv := if k < τ.length then (compS k t f (τ.set k none) ds [] S).bind compK2 else .bad
theorem run_dComp : dComp k fi t f τ S = (fi τ S).bind (compK1 k t f τ) := eq_ok rfl
theorem compK1_ok (h : Nat.blt k τ.length = true) : compK1 k t f τ ds S = (compS k t f (τ.set k none) ds [] S).bind compK2 := if_pos (blt_of h)
theorem run_compK2 : compK2 ds S = .ok (.own ds) S := eq_ok rfl
def compC2 (k : Nat) (t : FT) (f : FE) (τ : Sl) (ds acc : List D) (x : Xv) (S : List RS) : Out (List D) := match x with
  | .val y => if acc.length < 16777216 then compS k t f τ ds (acc ++ [y]) S else .bad
  | _ => .bad
def compC1 (k : Nat) (t : FT) (f : FE) (τ : Sl) (d : D) (ds acc : List D) (b : Bool) (S : List RS) : Out (List D) := if b = true then (noEx (f (τ.set k (some (.val d))) S)).bind (compC2 k t f τ ds acc) else compS k t f τ ds acc S
theorem comp_nil {acc : List D} : compS k t f τ [] acc S = .ok acc S := eq_ok rfl
theorem comp_cons {acc : List D} : compS k t f τ (d :: ds) acc S = (noEx (t (τ.set k (some (.val d))) S)).bind (compC1 k t f τ d ds acc) := eq_ok rfl
theorem noEx_ok {a : α} : noEx (.ok a S) = .ok a S := eq_ok rfl
theorem compC1_t {acc : List D} : compC1 k t f τ d ds acc true S = (noEx (f (τ.set k (some (.val d))) S)).bind (compC2 k t f τ ds acc) := eq_ok rfl
theorem compC1_f {acc : List D} : compC1 k t f τ d ds acc false S = compS k t f τ ds acc S := eq_ok rfl
theorem compC2_v {acc : List D} (h : acc.length < 16777216) : compC2 k t f τ ds acc (.val d) S = compS k t f τ ds (acc ++ [d]) S := if_pos h
/-- a comprehension whose parts answer -/
theorem comp_map {q : D → D} (ht : ∀ d ∈ ds, t (τ.set k (some (.val d))) S = .ok true S) (hf : ∀ d ∈ ds, f (τ.set k (some (.val d))) S = .ok (.val (q d)) S) (acc : List D) (hl : acc.length + ds.length ≤ 16777216) : compS k t f τ ds acc S = .ok (acc ++ ds.map q) S := by
  induction ds generalizing acc with
  | nil => simp [compS]
  | cons d ds ih =>
    unfold compS
    rw [ht d List.mem_cons_self]
    show ((noEx (f (τ.set k (some (.val d))) S)).bind fun x S2 => _) = _
    rw [hf d List.mem_cons_self]
    simp only [List.length_cons] at hl
    show (if acc.length < 16777216 then compS k t f τ ds (acc ++ [q d]) S else .bad) = _
    rw [if_pos (by omega), ih (fun d h => ht d (List.mem_cons_of_mem _ h)) (fun d h => hf d (List.mem_cons_of_mem _ h)) _ (by simp only [List.length_append, List.length_cons, List.length_nil]; omega)]
    simp
theorem comp_fm {p : D → Bool} {q : D → D} (ht : ∀ d ∈ ds, t (τ.set k (some (.val d))) S = .ok (p d) S) (hf : ∀ d ∈ ds, p d = true → f (τ.set k (some (.val d))) S = .ok (.val (q d)) S) (acc : List D) (hl : acc.length + ds.length ≤ 16777216) : compS k t f τ ds acc S = .ok (acc ++ (ds.filter p).map q) S := by
  induction ds generalizing acc with
  | nil => simp [compS]
  | cons d ds ih =>
    unfold compS
    rw [ht d List.mem_cons_self]
    simp only [List.length_cons] at hl
    show (if p d = true then (noEx (f (τ.set k (some (.val d))) S)).bind _ else _) = _
    have ih' := fun acc h => ih (fun d h => ht d (List.mem_cons_of_mem _ h)) (fun d h => hf d (List.mem_cons_of_mem _ h)) acc h
    cases hp : p d with
    | true =>
      rw [if_pos rfl, hf d List.mem_cons_self hp]
      show (if acc.length < 16777216 then compS k t f τ ds (acc ++ [q d]) S else .bad) = _
      rw [if_pos (by omega), ih' _ (by simp only [List.length_append, List.length_cons, List.length_nil]; omega)]
      simp [List.filter_cons, hp]
    | false =>
      rw [if_neg Bool.false_ne_true, ih' _ (by omega)]
      simp [List.filter_cons, hp]
theorem run_tTrue : tTrue τ S = .ok true S := eq_ok rfl
theorem filter_true {l : List α} : l.filter (fun _ => true) = l := List.filter_eq_self.mpr fun _ _ => rfl
-- defs
def defK : OS → Out Xv
  | .nx _ S' => .ok (.val .none) S'
  | .rt x S' => .ok x S'
  | .ex c _ S' => .ex c S'
  | _ => .bad
theorem run_defM {xs : List Xv} : defM n fs xs S = defK (fs (start' n xs) S) := by unfold defM defK; rfl
theorem defK_nx : defK (.nx τ S) = .ok (.val .none) S := eq_ok rfl
theorem defK_rt : defK (.rt x S) = .ok x S := eq_ok rfl
theorem defK_ex : defK (.ex c τ S) = .ex c S := eq_ok rfl
end
/-- the script's number at place k -/
def cell (ns : List Int) (k : Int) : Int := if k < ns.length then (ns[k.toNat]?).getD 0 else 0
theorem cell_at {ns : List Int} {k : Int} (h : 0 ≤ k) (h2 : k < ns.length) : atI ns k = some (cell ns k) := by
  unfold cell
  rw [if_pos h2]
  unfold atI ixN
  rw [if_pos h, if_pos h2]
  have : k.toNat < ns.length := by omega
  show ns[k.toNat]? = some (ns[k.toNat]?.getD 0)
  rw [List.getElem?_eq_getElem this]
  rfl
theorem cell_out {ns : List Int} {k : Int} (h : ¬ k < ns.length) : cell ns k = 0 := if_neg h
end Pk
/-! Pk, part 10: lists, ranges, outlines. -/
namespace Pk
open PySem L2
/-- i, i + 1, .., n of them -/
def rg : Int → Nat → List D
  | _, 0 => []
  | i, n + 1 => .int i :: rg (i + 1) n
theorem rangeD_rg (lo : Int) (n : Nat) : rangeD lo n = rg lo n := by
  unfold rangeD
  induction n generalizing lo with
  | zero => rfl
  | succ n ih =>
    rw [List.range_succ_eq_map, List.map_cons, List.map_map]
    show _ :: _ = .int lo :: rg (lo + 1) n
    rw [← ih (lo + 1)]
    simp only [Int.natCast_zero, Int.add_zero, List.cons.injEq, true_and]
    apply List.map_congr_left
    intro a _
    show PyData.int _ = PyData.int _
    congr 1
    show lo + ((a + 1 : Nat) : Int) = lo + 1 + (a : Int)
    omega
theorem rg_append (i : Int) (n m : Nat) : rg i (n + m) = rg i n ++ rg (i + n) m := by
  induction n generalizing i with
  | zero => simp [rg]
  | succ n ih =>
    have e : n + 1 + m = (n + m) + 1 := by omega
    rw [e]
    show .int i :: rg (i + 1) (n + m) = .int i :: rg (i + 1) n ++ rg (i + (n + 1 : Nat)) m
    rw [ih]
    have e2 : i + 1 + (n : Int) = i + ((n + 1 : Nat) : Int) := by omega
    rw [e2]
    rfl
theorem rg_length (i : Int) (n : Nat) : (rg i n).length = n := by
  induction n generalizing i with
  | zero => rfl
  | succ n ih => exact congrArg (· + 1) (ih (i + 1))
theorem rg_map (i : Int) (n : Nat) : rg i n = (List.range n).map fun k => PyData.int (i + (k : Nat)) := (rangeD_rg i n).symm
theorem mem_rg {i : Int} {n : Nat} {d : D} (h : d ∈ rg i n) : ∃ k : Int, d = .int k ∧ i ≤ k ∧ k < i + n := by
  rw [rg_map, List.mem_map] at h
  obtain ⟨k, hk, rfl⟩ := h
  rw [List.mem_range] at hk
  exact ⟨i + (k : Nat), rfl, by omega, by omega⟩
/-- the item behind a front -/
theorem atI_front {α : Type} (pre : List α) (a : α) (ps : List α) : atI (pre ++ a :: ps) (pre.length : Int) = some a := by
  apply atI_nat
  simp
theorem atI_map {α β : Type} (f : α → β) (l : List α) (i : Int) : atI (l.map f) i = (atI l i).map f := by
  unfold atI
  rw [List.length_map]
  cases ixN l.length i with
  | none => rfl
  | some j => show (l.map f)[j]? = (l[j]?).map f; rw [List.getElem?_map]
theorem atI_pos {α : Type} {l : List α} {i : Nat} {a : α} (h : l[i]? = some a) : atI l (i : Int) = some a := atI_nat h
theorem atI_lt {α : Type} {l : List α} {i : Int} (h : 0 ≤ i) (h2 : i < l.length) : ∃ a, atI l i = some a ∧ l[i.toNat]? = some a := by
  have h3 : i.toNat < l.length := by omega
  refine ⟨l[i.toNat], ?_, List.getElem?_eq_getElem h3⟩
  unfold atI ixN
  rw [if_pos h, if_pos h2]
  exact List.getElem?_eq_getElem h3
/-- outlines: left, up, wide, high -/
abbrev O4 := Int × Int × Int × Int
def oD (o : O4) : D := .tuple [.int o.1, .int o.2.1, .int o.2.2.1, .int o.2.2.2]
/-- shelves: width, height, habit -/
abbrev S3 := Int × Int × Bool
def hab (b : Bool) : Str := if b then "left" else "low"
def shD (s : S3) : D := .tuple [.int s.1, .int s.2.1, .str (hab s.2.2)]
/-- places: shelf, up, left, turned -/
abbrev P4 := Int × Int × Int × Bool
def plD (p : P4) : D := .tuple [.int p.1, .int p.2.1, .int p.2.2.1, .bool p.2.2.2]
/-- spots: up, left -/
def spD (p : Int × Int) : D := .tuple [.int p.1, .int p.2]
def optD {α : Type} (f : α → D) : Option α → D
  | none => .none
  | some a => f a
theorem isNon_optD {α : Type} (f : α → D) (h : ∀ a, isNon (f a) = false) (o : Option α) : isNon (optD f o) = o.isNone := by
  cases o with
  | none => rfl
  | some a => exact h a
end Pk
namespace Pk
open PySem L2
/-- a list as an argument -/
structure IsL (x : Xv) (ds : List D) : Prop where
  nr : nrm x = .val (.list ds)
  av : ∀ S, aVarK S (some (some x)) = .ok x S
  iv : ∀ S, iVK S (some (some x)) = .ok ds S
  fz : ∀ k g τ S, frzK k g τ S (some (some x)) = g τ S
  no : ∀ xs, noOwn (x :: xs) = noOwn xs
theorem isL_val (ds : List D) : IsL (.val (.list ds)) ds := ⟨rfl, fun _ => rfl, fun _ => rfl, fun _ _ _ _ => rfl, fun _ => rfl⟩
theorem isL_brw (ds : List D) : IsL (.brw ds) ds := ⟨rfl, fun _ => rfl, fun _ => rfl, fun _ _ _ _ => rfl, fun _ => rfl⟩
end Pk
namespace Pk
open PySem L2
theorem ix_oD0 {o : O4} : gIx (.val (oD o)) (.val (.int 0)) = some (.val (.int o.1)) := by unfold oD; rw [gIx_tup, atI0]; rfl
theorem ix_oD1 {o : O4} : gIx (.val (oD o)) (.val (.int 1)) = some (.val (.int o.2.1)) := by unfold oD; rw [gIx_tup, atI1]; rfl
theorem ix_oD2 {o : O4} : gIx (.val (oD o)) (.val (.int 2)) = some (.val (.int o.2.2.1)) := by unfold oD; rw [gIx_tup, atI2]; rfl
theorem ix_oD3 {o : O4} : gIx (.val (oD o)) (.val (.int 3)) = some (.val (.int o.2.2.2)) := by unfold oD; rw [gIx_tup, atI3]; rfl
theorem ix_sh0 {o : S3} : gIx (.val (shD o)) (.val (.int 0)) = some (.val (.int o.1)) := by unfold shD; rw [gIx_tup, atI0]; rfl
theorem ix_sh1 {o : S3} : gIx (.val (shD o)) (.val (.int 1)) = some (.val (.int o.2.1)) := by unfold shD; rw [gIx_tup, atI1]; rfl
theorem ix_sh2 {o : S3} : gIx (.val (shD o)) (.val (.int 2)) = some (.val (.str (hab o.2.2))) := by unfold shD; rw [gIx_tup, atI2]; rfl
theorem ix_pl0 {o : P4} : gIx (.val (plD o)) (.val (.int 0)) = some (.val (.int o.1)) := by unfold plD; rw [gIx_tup, atI0]; rfl
theorem ix_pl1 {o : P4} : gIx (.val (plD o)) (.val (.int 1)) = some (.val (.int o.2.1)) := by unfold plD; rw [gIx_tup, atI1]; rfl
theorem ix_pl2 {o : P4} : gIx (.val (plD o)) (.val (.int 2)) = some (.val (.int o.2.2.1)) := by unfold plD; rw [gIx_tup, atI2]; rfl
theorem ix_pl3 {o : P4} : gIx (.val (plD o)) (.val (.int 3)) = some (.val (.bool o.2.2.2)) := by unfold plD; rw [gIx_tup, atI3]; rfl
theorem ix_sp0 {o : Int × Int} : gIx (.val (spD o)) (.val (.int 0)) = some (.val (.int o.1)) := by unfold spD; rw [gIx_tup, atI0]; rfl
theorem ix_sp1 {o : Int × Int} : gIx (.val (spD o)) (.val (.int 1)) = some (.val (.int o.2)) := by unfold spD; rw [gIx_tup, atI1]; rfl
theorem isNon_oD {o : O4} : isNon (oD o) = false := eq_ok rfl
theorem isNon_plD {o : P4} : isNon (plD o) = false := eq_ok rfl
theorem isNon_spD {o : Int × Int} : isNon (spD o) = false := eq_ok rfl
theorem isNon_shD {o : S3} : isNon (shD o) = false := eq_ok rfl
theorem fz_oD {k : Nat} {g : FS} {τ : Sl} {S : List RS} {o : O4} : frzK k g τ S (some (some (.val (oD o)))) = g τ S := eq_ok rfl
theorem fz_plD {k : Nat} {g : FS} {τ : Sl} {S : List RS} {o : P4} : frzK k g τ S (some (some (.val (plD o)))) = g τ S := eq_ok rfl
theorem fz_shD {k : Nat} {g : FS} {τ : Sl} {S : List RS} {o : S3} : frzK k g τ S (some (some (.val (shD o)))) = g τ S := eq_ok rfl
theorem fz_spD {k : Nat} {g : FS} {τ : Sl} {S : List RS} {o : Int × Int} : frzK k g τ S (some (some (.val (spD o)))) = g τ S := eq_ok rfl
theorem hab_left {b : Bool} : (hab b == "left") = b := by cases b <;> rfl
theorem hab_low {b : Bool} : (hab b == "low") = !b := by cases b <;> rfl
end Pk
namespace Pk
theorem optD_some {α : Type} {f : α → D} {a : α} : optD f (some a) = f a := eq_ok rfl
theorem optD_none {α : Type} {f : α → D} : optD f none = .none := eq_ok rfl
end Pk
namespace Pk
open PySem L2
def ir : Int → Nat → List Int
  | _, 0 => []
  | i, n + 1 => i :: ir (i + 1) n
theorem rg_ir (i : Int) (n : Nat) : rg i n = (ir i n).map .int := by
  induction n generalizing i with
  | zero => rfl
  | succ n ih => show _ :: _ = _ :: _; rw [ih (i + 1)]
theorem ir_length (i : Int) (n : Nat) : (ir i n).length = n := by
  induction n generalizing i with
  | zero => rfl
  | succ n ih => exact congrArg (· + 1) (ih (i + 1))
theorem mem_ir {i k : Int} {n : Nat} : k ∈ ir i n ↔ i ≤ k ∧ k < i + n := by
  induction n generalizing i with
  | zero => simp only [ir, List.not_mem_nil, false_iff]; omega
  | succ n ih =>
    show k ∈ i :: ir (i + 1) n ↔ _
    rw [List.mem_cons, ih]
    omega
theorem ir_get (i : Int) (n j : Nat) (h : j < n) : (ir i n)[j]? = some (i + j) := by
  induction n generalizing i j with
  | zero => omega
  | succ n ih =>
    cases j with
    | zero => simp [ir]
    | succ j =>
      show (i :: ir (i + 1) n)[j + 1]? = _
      rw [List.getElem?_cons_succ, ih (i + 1) j (by omega)]
      congr 1
      omega
theorem ir_atI {n : Nat} {k : Int} (h : 0 ≤ k) (h2 : k < n) : atI (ir 0 n) k = some k := by
  unfold atI ixN
  rw [ir_length, if_pos h, if_pos h2]
  show (ir 0 n)[k.toNat]? = _
  rw [ir_get 0 n k.toNat (by omega)]
  congr 1
  omega
section
variable {α : Type} {k : Nat} {t : FT} {f : FE} {τ : Sl} {S : List RS}
theorem comp_mapE {xs : List α} (enc q : α → D) (ht : ∀ a ∈ xs, t (τ.set k (some (.val (enc a)))) S = .ok true S) (hf : ∀ a ∈ xs, f (τ.set k (some (.val (enc a)))) S = .ok (.val (q a)) S) (acc : List D) (hl : acc.length + xs.length ≤ 16777216) : compS k t f τ (xs.map enc) acc S = .ok (acc ++ xs.map q) S := by
  induction xs generalizing acc with
  | nil => simp [compS]
  | cons d ds ih =>
    simp only [List.length_cons] at hl
    rw [List.map_cons, comp_cons, ht d List.mem_cons_self, noEx_ok, r_ok, compC1_t, hf d List.mem_cons_self, noEx_ok, r_ok, compC2_v (by omega), ih (fun d h => ht d (List.mem_cons_of_mem _ h)) (fun d h => hf d (List.mem_cons_of_mem _ h)) _ (by simp only [List.length_append, List.length_cons, List.length_nil]; omega)]
    simp
theorem comp_fmE {xs : List α} (enc q : α → D) (p : α → Bool) (ht : ∀ a ∈ xs, t (τ.set k (some (.val (enc a)))) S = .ok (p a) S) (hf : ∀ a ∈ xs, p a = true → f (τ.set k (some (.val (enc a)))) S = .ok (.val (q a)) S) (acc : List D) (hl : acc.length + xs.length ≤ 16777216) : compS k t f τ (xs.map enc) acc S = .ok (acc ++ (xs.filter p).map q) S := by
  induction xs generalizing acc with
  | nil => simp [compS]
  | cons d ds ih =>
    simp only [List.length_cons] at hl
    have ih' := fun acc h => ih (fun d h => ht d (List.mem_cons_of_mem _ h)) (fun d h => hf d (List.mem_cons_of_mem _ h)) acc h
    rw [List.map_cons, comp_cons, ht d List.mem_cons_self, noEx_ok, r_ok]
    cases hp : p d with
    | true =>
      rw [compC1_t, hf d List.mem_cons_self hp, noEx_ok, r_ok, compC2_v (by omega), ih' _ (by simp only [List.length_append, List.length_cons, List.length_nil]; omega)]
      simp [List.filter_cons, hp]
    | false =>
      rw [compC1_f, ih' _ (by omega)]
      simp [List.filter_cons, hp]
end
theorem shaped_list {ds : List D} (h : ∀ d ∈ ds, d.canLay0 = true ∧ d.depth ≤ 8) : SeqAt.shaped (.list ds) = true := by
  have h3 : PyData.canLayAll0 ds = true ∧ PyData.depthAll ds ≤ 8 := by
    induction ds with
    | nil => simp [PyData.canLayAll0, PyData.depthAll]
    | cons o os ih =>
      obtain ⟨i1, i2⟩ := ih fun d hd => h d (List.mem_cons_of_mem _ hd)
      obtain ⟨j1, j2⟩ := h o List.mem_cons_self
      refine ⟨by simp [PyData.canLayAll0, i1, j1], ?_⟩
      simp only [PyData.depthAll]
      omega
  show (PyData.canLay0 (.list ds) && decide (PyData.depth (.list ds) ≤ 64)) = true
  rw [Bool.and_eq_true]
  refine ⟨by simp only [PyData.canLay0]; exact h3.1, decide_eq_true ?_⟩
  simp only [PyData.depth]
  have := h3.2
  omega
theorem lay_oD (o : O4) : (oD o).canLay0 = true ∧ (oD o).depth ≤ 8 := by simp [oD, PyData.canLay0, PyData.canLayAll0, PyData.depth, PyData.depthAll]
theorem lay_shD (o : S3) : (shD o).canLay0 = true ∧ (shD o).depth ≤ 8 := by
  obtain ⟨a, b, c⟩ := o
  cases c <;> simp [shD, hab, PyData.canLay0, PyData.canLayAll0, PyData.depth, PyData.depthAll] <;> decide +kernel
theorem lay_plD (o : P4) : (plD o).canLay0 = true ∧ (plD o).depth ≤ 8 := by simp [plD, PyData.canLay0, PyData.canLayAll0, PyData.depth, PyData.depthAll]
theorem lay_spD (o : Int × Int) : (spD o).canLay0 = true ∧ (spD o).depth ≤ 8 := by simp [spD, PyData.canLay0, PyData.canLayAll0, PyData.depth, PyData.depthAll]
theorem shaped_of {d : D} (h : d.canLay0 = true ∧ d.depth ≤ 8) : SeqAt.shaped d = true := by
  show (PyData.canLay0 d && decide (PyData.depth d ≤ 64)) = true
  rw [Bool.and_eq_true]
  have := h.2
  exact ⟨h.1, decide_eq_true (by omega)⟩
theorem gNe_self {d : D} (h : SeqAt.shaped d = true) : gNe (.val d) (.val d) = some (.val (.bool false)) := by
  rw [gNe_val h h, SeqAt.eqv_refl _ (SeqAt.canLay_of_shaped h)]
  rfl
theorem gEq_self {d : D} (h : SeqAt.shaped d = true) : gEq (.val d) (.val d) = some (.val (.bool true)) := by
  rw [gEq_val h h, SeqAt.eqv_refl _ (SeqAt.canLay_of_shaped h)]
theorem shaped_map {α : Type} (f : α → D) (h : ∀ a, (f a).canLay0 = true ∧ (f a).depth ≤ 8) (xs : List α) : SeqAt.shaped (.list (xs.map f)) = true := shaped_list fun d hd => by
  obtain ⟨a, _, rfl⟩ := List.mem_map.mp hd
  exact h a
end Pk
/-! Pk, part 11: while; boxes; texts. -/
namespace Pk
open PySem L2
section
variable {t : FT} {f : FS} {τ τ' : Sl} {S : List RS} {n m c : Nat} {x : Xv}
theorem fuel_eq : fuel = 10 ^ 40 := by unfold fuel; rfl
def whK (t : FT) (f : FS) (n : Nat) : OS → OS
  | .nx τ2 S2 => whileS t f n τ2 S2
  | .ct τ2 S2 => whileS t f n τ2 S2
  | .bk τ2 S2 => .nx τ2 S2
  | o => o
def whK1 (t : FT) (f : FS) (n : Nat) (τ : Sl) (b : Bool) (S : List RS) : OS := if b = true then whK t f n (f τ S) else .nx τ S
theorem run_while : whileS t f (n + 1) τ S = bindS (t τ S) τ (whK1 t f n τ) := eq_ok rfl
theorem whK1_t : whK1 t f n τ true S = whK t f n (f τ S) := eq_ok rfl
theorem whK1_f : whK1 t f n τ false S = .nx τ S := eq_ok rfl
theorem whK_nx : whK t f n (.nx τ S) = whileS t f n τ S := eq_ok rfl
theorem whK_ct : whK t f n (.ct τ S) = whileS t f n τ S := eq_ok rfl
theorem whK_bk : whK t f n (.bk τ S) = .nx τ S := eq_ok rfl
theorem whK_rt : whK t f n (.rt x S) = .rt x S := eq_ok rfl
theorem whK_ex : whK t f n (.ex c τ S) = .ex c τ S := eq_ok rfl
/-- a while whose walk is known from m rounds on -/
theorem sWhile_of {o : OS} (m : Nat) (hm : Nat.ble m 1000000000000000 = true) (h : ∀ k, m ≤ k → whileS t f k τ S = o) : sWhile t f τ S = o := by
  unfold sWhile
  apply h
  rw [fuel_eq]
  exact Nat.le_trans (Nat.le_of_ble_eq_true hm) (by decide)
theorem gStr_int {i : Int} (h : i.natAbs < 2 ^ 100) : gStr [.val (.int i)] = some (.val (.str (toString i))) := if_pos h
theorem gInt_str {a : Str} {n : Int} (h : intText? a = some n) (hl : a.length ≤ 640) : gInt [.val (.str a)] = some (.val (.int n)) := by
  show (if a.length ≤ 640 then _ else _) = _
  rw [if_pos hl, h]
theorem gIn_list {d : D} {ds : List D} {b : Bool} (h1 : SeqAt.shaped d = true) (h2 : SeqAt.shaped (.list ds) = true) (h : (ds.any fun z => PyData.eqv z d) = b) : gIn false (.val d) (.val (.list ds)) = some (.val (.bool b)) := by
  show (if SeqAt.shaped d && SeqAt.shaped (.list ds) then _ else _) = _
  rw [h1, h2, h]
  rfl
theorem gNin_list {d : D} {ds : List D} {b : Bool} (h1 : SeqAt.shaped d = true) (h2 : SeqAt.shaped (.list ds) = true) (h : (ds.any fun z => PyData.eqv z d) = b) : gIn true (.val d) (.val (.list ds)) = some (.val (.bool (!b))) := by
  show (if SeqAt.shaped d && SeqAt.shaped (.list ds) then _ else _) = _
  rw [h1, h2, h]
  rfl
end
theorem any_eqv {α : Type} (f : α → D) {a : α} {xs : List α} (h : SeqAt.shaped (f a) = true) (hm : a ∈ xs) : ((xs.map f).any fun z => PyData.eqv z (f a)) = true := by
  rw [List.any_eq_true]
  exact ⟨f a, List.mem_map_of_mem hm, SeqAt.eqv_refl _ (SeqAt.canLay_of_shaped h)⟩
/-- boxes: name, width, height, may be turned -/
abbrev B4 := Str × Int × Int × Bool
def bxD (b : B4) : D := .tuple [.str b.1, .int b.2.1, .int b.2.2.1, .bool b.2.2.2]
section
variable {o : B4} {k : Nat} {g : FS} {τ : Sl} {S : List RS}
theorem ix_bx0 : gIx (.val (bxD o)) (.val (.int 0)) = some (.val (.str o.1)) := by unfold bxD; rw [gIx_tup, atI0]; rfl
theorem ix_bx1 : gIx (.val (bxD o)) (.val (.int 1)) = some (.val (.int o.2.1)) := by unfold bxD; rw [gIx_tup, atI1]; rfl
theorem ix_bx2 : gIx (.val (bxD o)) (.val (.int 2)) = some (.val (.int o.2.2.1)) := by unfold bxD; rw [gIx_tup, atI2]; rfl
theorem ix_bx3 : gIx (.val (bxD o)) (.val (.int 3)) = some (.val (.bool o.2.2.2)) := by unfold bxD; rw [gIx_tup, atI3]; rfl
theorem isNon_bxD : isNon (bxD o) = false := eq_ok rfl
theorem fz_bxD : frzK k g τ S (some (some (.val (bxD o)))) = g τ S := eq_ok rfl
theorem len_bxD : gLen [.val (bxD o)] = some (.val (.int 4)) := eq_ok rfl
end
end Pk
/-! Pk, part 12: outlines that are apart, spots in order. -/
namespace Pk
open PySem L2
def Apart (p q : O4) : Prop := p.1 + p.2.2.1 ≤ q.1 ∨ q.1 + q.2.2.1 ≤ p.1 ∨ p.2.1 + p.2.2.2 ≤ q.2.1 ∨ q.2.1 + q.2.2.2 ≤ p.2.1
def InS (o : O4) (w h : Int) : Prop := 0 ≤ o.1 ∧ 0 ≤ o.2.1 ∧ o.1 + o.2.2.1 ≤ w ∧ o.2.1 + o.2.2.2 ≤ h
def Fit (os : List O4) (o : O4) (w h : Int) : Prop := InS o w h ∧ ∀ p ∈ os, Apart p o
/-- an outline of a size at a spot -/
def atS (s : Int × Int) (z : Int × Int) : O4 := (s.2, s.1, z.1, z.2)
def leH (h : Bool) (p q : Int × Int) : Prop := if h = true then p.2 < q.2 ∨ (p.2 = q.2 ∧ p.1 ≤ q.1) else p.1 < q.1 ∨ (p.1 = q.1 ∧ p.2 ≤ q.2)
def FirstS (h : Bool) (P : Int × Int → Prop) : Option (Int × Int) → Prop
  | none => ∀ s, ¬ P s
  | some s => P s ∧ ∀ s', P s' → leH h s s'
theorem leH_anti {h : Bool} {p q : Int × Int} (h1 : leH h p q) (h2 : leH h q p) : p = q := by
  obtain ⟨a, b⟩ := p
  obtain ⟨c, d⟩ := q
  unfold leH at h1 h2
  cases h
  · rw [if_neg Bool.false_ne_true] at h1 h2
    dsimp only at h1 h2
    rw [show a = c by omega, show b = d by omega]
  · rw [if_pos rfl] at h1 h2
    dsimp only at h1 h2
    rw [show a = c by omega, show b = d by omega]
theorem leH_trans {h : Bool} {p q r : Int × Int} (h1 : leH h p q) (h2 : leH h q r) : leH h p r := by
  unfold leH at *
  cases h
  · rw [if_neg Bool.false_ne_true] at *
    omega
  · rw [if_pos rfl] at *
    omega
theorem leH_of_le {h : Bool} {p q : Int × Int} (h1 : p.1 ≤ q.1) (h2 : p.2 ≤ q.2) : leH h p q := by
  unfold leH
  cases h
  · rw [if_neg Bool.false_ne_true]
    omega
  · rw [if_pos rfl]
    omega
theorem leH_total (h : Bool) (p q : Int × Int) : leH h p q ∨ leH h q p := by
  unfold leH
  cases h
  · rw [if_neg Bool.false_ne_true, if_neg Bool.false_ne_true]
    omega
  · rw [if_pos rfl, if_pos rfl]
    omega
theorem first_unique {h : Bool} {P : Int × Int → Prop} {r r' : Option (Int × Int)} (h1 : FirstS h P r) (h2 : FirstS h P r') : r = r' := by
  cases r with
  | none =>
    cases r' with
    | none => rfl
    | some s => exact absurd h2.1 (h1 s)
  | some s =>
    cases r' with
    | none => exact absurd h1.1 (h2 s)
    | some s' => exact congrArg some (leH_anti (h1.2 s' h2.1) (h2.2 s h1.1))
theorem first_iff {h : Bool} {P Q : Int × Int → Prop} (hpq : ∀ s, P s ↔ Q s) {r : Option (Int × Int)} (h1 : FirstS h P r) : FirstS h Q r := by
  cases r with
  | none => exact fun s hs => h1 s ((hpq s).mpr hs)
  | some s => exact ⟨(hpq s).mp h1.1, fun s' hs => h1.2 s' ((hpq s').mpr hs)⟩
/-- the ends across, and up -/
def EndA (os : List O4) (e : Int) : Prop := e = 0 ∨ ∃ p ∈ os, e = p.1 + p.2.2.1
def EndU (os : List O4) (e : Int) : Prop := e = 0 ∨ ∃ p ∈ os, e = p.2.1 + p.2.2.2
theorem push_left {os : List O4} {u l w h W H : Int} (hf : Fit os (l, u, w, h) W H) : ∃ l', l' ≤ l ∧ EndA os l' ∧ Fit os (l', u, w, h) W H := by
  obtain ⟨n, hn⟩ : ∃ n : Nat, l = n := Int.eq_ofNat_of_zero_le hf.1.1
  induction n generalizing l with
  | zero => exact ⟨l, Int.le_refl _, .inl hn, hf⟩
  | succ n ih =>
    by_cases he : EndA os l
    · exact ⟨l, Int.le_refl _, he, hf⟩
    · have hf' : Fit os (l - 1, u, w, h) W H := by
        obtain ⟨⟨i1, i2, i3, i4⟩, hp⟩ := hf
        dsimp only at i1 i2 i3 i4
        refine ⟨⟨by show 0 ≤ l - 1; omega, i2, by show l - 1 + w ≤ W; omega, i4⟩, fun p hm => ?_⟩
        have h1 := hp p hm
        have h2 : l ≠ p.1 + p.2.2.1 := fun e => he (.inr ⟨p, hm, e⟩)
        unfold Apart at *
        dsimp only at *
        omega
      obtain ⟨l', g1, g2, g3⟩ := ih hf' (by omega)
      exact ⟨l', by omega, g2, g3⟩
theorem push_down {os : List O4} {u l w h W H : Int} (hf : Fit os (l, u, w, h) W H) : ∃ u', u' ≤ u ∧ EndU os u' ∧ Fit os (l, u', w, h) W H := by
  obtain ⟨n, hn⟩ : ∃ n : Nat, u = n := Int.eq_ofNat_of_zero_le hf.1.2.1
  induction n generalizing u with
  | zero => exact ⟨u, Int.le_refl _, .inl hn, hf⟩
  | succ n ih =>
    by_cases he : EndU os u
    · exact ⟨u, Int.le_refl _, he, hf⟩
    · have hf' : Fit os (l, u - 1, w, h) W H := by
        obtain ⟨⟨i1, i2, i3, i4⟩, hp⟩ := hf
        dsimp only at i1 i2 i3 i4
        refine ⟨⟨i1, by show 0 ≤ u - 1; omega, i3, by show u - 1 + h ≤ H; omega⟩, fun p hm => ?_⟩
        have h1 := hp p hm
        have h2 : u ≠ p.2.1 + p.2.2.2 := fun e => he (.inr ⟨p, hm, e⟩)
        unfold Apart at *
        dsimp only at *
        omega
      obtain ⟨l', g1, g2, g3⟩ := ih hf' (by omega)
      exact ⟨l', by omega, g2, g3⟩
theorem push {os : List O4} {s z : Int × Int} {W H : Int} (hf : Fit os (atS s z) W H) : ∃ s' : Int × Int, s'.1 ≤ s.1 ∧ s'.2 ≤ s.2 ∧ EndU os s'.1 ∧ EndA os s'.2 ∧ Fit os (atS s' z) W H := by
  obtain ⟨u, l⟩ := s
  obtain ⟨l', a1, a2, a3⟩ := push_left (l := l) (u := u) hf
  obtain ⟨u', b1, b2, b3⟩ := push_down a3
  exact ⟨(u', l'), b1, a1, b2, a2, b3⟩
theorem first_ends {os : List O4} {z : Int × Int} {W H : Int} {h : Bool} {r : Option (Int × Int)} (hr : FirstS h (fun s => (EndU os s.1 ∧ EndA os s.2) ∧ Fit os (atS s z) W H) r) : FirstS h (fun s => Fit os (atS s z) W H) r := by
  cases r with
  | none =>
    intro s hs
    obtain ⟨s', _, _, g3, g4, g5⟩ := push hs
    exact hr s' ⟨⟨g3, g4⟩, g5⟩
  | some s =>
    refine ⟨hr.1.2, fun s' hs => ?_⟩
    obtain ⟨s2, g1, g2, g3, g4, g5⟩ := push hs
    exact leH_trans (hr.2 s2 ⟨⟨g3, g4⟩, g5⟩) (leH_of_le g1 g2)
/-- row by row, the first that is so -/
def scan (p : Int → Int → Bool) : List Int → List Int → Option (Int × Int)
  | [], _ => none
  | u :: us, ls => match ls.find? (p u) with
    | some l => some (u, l)
    | none => scan p us ls
theorem find_sorted {p : Int → Bool} : ∀ {ls : List Int} {l : Int}, ls.Pairwise (· ≤ ·) → ls.find? p = some l → p l = true ∧ l ∈ ls ∧ ∀ l' ∈ ls, p l' = true → l ≤ l'
  | a :: ls, l, hs, h => by
    rw [List.pairwise_cons] at hs
    rw [List.find?_cons] at h
    cases hp : p a with
    | true =>
      rw [hp] at h
      injection h with h
      subst h
      refine ⟨hp, List.mem_cons_self, fun l' hl _ => ?_⟩
      rcases List.mem_cons.mp hl with rfl | hl
      · exact Int.le_refl _
      · exact hs.1 l' hl
    | false =>
      rw [hp] at h
      obtain ⟨g1, g2, g3⟩ := find_sorted hs.2 h
      refine ⟨g1, List.mem_cons_of_mem _ g2, fun l' hl hp' => ?_⟩
      rcases List.mem_cons.mp hl with rfl | hl
      · rw [hp] at hp'
        cases hp'
      · exact g3 l' hl hp'
theorem scan_first {p : Int → Int → Bool} {ls : List Int} (hl : ls.Pairwise (· ≤ ·)) : ∀ {us : List Int}, us.Pairwise (· ≤ ·) → (match scan p us ls with
    | none => ∀ u ∈ us, ∀ l ∈ ls, p u l = false
    | some s => p s.1 s.2 = true ∧ s.1 ∈ us ∧ s.2 ∈ ls ∧ ∀ u ∈ us, ∀ l ∈ ls, p u l = true → s.1 < u ∨ (s.1 = u ∧ s.2 ≤ l))
  | [], _ => fun u h => absurd h List.not_mem_nil
  | u :: us, hu => by
    rw [List.pairwise_cons] at hu
    unfold scan
    cases hf : ls.find? (p u) with
    | some l =>
      dsimp only
      obtain ⟨g1, g2, g3⟩ := find_sorted hl hf
      refine ⟨g1, List.mem_cons_self, g2, fun u' hu' l' hl' hp => ?_⟩
      rcases List.mem_cons.mp hu' with rfl | hm
      · exact .inr ⟨rfl, g3 l' hl' hp⟩
      · have h1 := hu.1 u' hm
        by_cases e : u = u'
        · subst e
          exact .inr ⟨rfl, g3 l' hl' hp⟩
        · exact .inl (by show u < u'; omega)
    | none =>
      dsimp only
      rw [List.find?_eq_none] at hf
      have ih := scan_first hl hu.2 (p := p)
      cases hs : scan p us ls with
      | none =>
        rw [hs] at ih
        dsimp only at ih ⊢
        intro u' hu' l hl'
        rcases List.mem_cons.mp hu' with rfl | hm
        · exact Bool.eq_false_iff.mpr (hf l hl')
        · exact ih u' hm l hl'
      | some s =>
        rw [hs] at ih
        dsimp only at ih ⊢
        refine ⟨ih.1, List.mem_cons_of_mem _ ih.2.1, ih.2.2.1, fun u' hu' l' hl' hp => ?_⟩
        rcases List.mem_cons.mp hu' with rfl | hm
        · exact absurd hp (hf l' hl')
        · exact ih.2.2.2 u' hm l' hl' hp
/-- the first spot of ups and lefts, by the habit -/
def spotS (h : Bool) (p : Int × Int → Bool) (us ls : List Int) : Option (Int × Int) :=
  if h = true then (scan (fun l u => p (u, l)) ls us).map (fun s => (s.2, s.1)) else scan (fun u l => p (u, l)) us ls
theorem spotS_first {h : Bool} {p : Int × Int → Bool} {us ls : List Int} (hu : us.Pairwise (· ≤ ·)) (hl : ls.Pairwise (· ≤ ·)) : FirstS h (fun s => (s.1 ∈ us ∧ s.2 ∈ ls) ∧ p s = true) (spotS h p us ls) := by
  unfold spotS
  cases h with
  | false =>
    rw [if_neg Bool.false_ne_true]
    have g := scan_first hl hu (p := fun u l => p (u, l))
    cases hs : scan (fun u l => p (u, l)) us ls with
    | none =>
      rw [hs] at g
      dsimp only at g
      intro s hp
      have := g s.1 hp.1.1 s.2 hp.1.2
      rw [hp.2] at this
      cases this
    | some s =>
      rw [hs] at g
      dsimp only at g
      refine ⟨⟨⟨g.2.1, g.2.2.1⟩, g.1⟩, fun s' hp => ?_⟩
      have := g.2.2.2 s'.1 hp.1.1 s'.2 hp.1.2 hp.2
      unfold leH
      rw [if_neg Bool.false_ne_true]
      exact this
  | true =>
    rw [if_pos rfl]
    have g := scan_first hu hl (p := fun l u => p (u, l))
    cases hs : scan (fun l u => p (u, l)) ls us with
    | none =>
      rw [hs] at g
      dsimp only at g
      intro s hp
      have := g s.2 hp.1.2 s.1 hp.1.1
      rw [hp.2] at this
      cases this
    | some s =>
      rw [hs] at g
      dsimp only at g
      refine ⟨⟨⟨g.2.2.1, g.2.1⟩, g.1⟩, fun s' hp => ?_⟩
      have := g.2.2.2 s'.2 hp.1.2 s'.1 hp.1.1 hp.2
      unfold leH
      rw [if_pos rfl]
      exact this
/-- scaled -/
def scO (a b : Int) (o : O4) : O4 := (o.1 * a, o.2.1 * b, o.2.2.1 * a, o.2.2.2 * b)
theorem mul_le_iff {a x y : Int} (ha : 0 < a) : x * a ≤ y * a ↔ x ≤ y := ⟨fun h => Int.le_of_mul_le_mul_right h ha, fun h => Int.mul_le_mul_of_nonneg_right h (Int.le_of_lt ha)⟩
theorem apart_sc {a b : Int} (ha : 0 < a) (hb : 0 < b) (p q : O4) : Apart (scO a b p) (scO a b q) ↔ Apart p q := by
  unfold Apart scO
  dsimp only
  rw [← Int.add_mul, ← Int.add_mul, ← Int.add_mul, ← Int.add_mul, mul_le_iff ha, mul_le_iff ha, mul_le_iff hb, mul_le_iff hb]
theorem in_sc {a b : Int} (ha : 0 < a) (hb : 0 < b) (o : O4) (W H : Int) : InS (scO a b o) (W * a) (H * b) ↔ InS o W H := by
  unfold InS scO
  dsimp only
  rw [← Int.add_mul, ← Int.add_mul, mul_le_iff ha, mul_le_iff hb]
  have h1 : 0 ≤ o.1 * a ↔ 0 ≤ o.1 := by have := mul_le_iff (x := 0) (y := o.1) ha; rwa [Int.zero_mul] at this
  have h2 : 0 ≤ o.2.1 * b ↔ 0 ≤ o.2.1 := by have := mul_le_iff (x := 0) (y := o.2.1) hb; rwa [Int.zero_mul] at this
  rw [h1, h2]
theorem fit_sc {a b : Int} (ha : 0 < a) (hb : 0 < b) (os : List O4) (o : O4) (W H : Int) : Fit (os.map (scO a b)) (scO a b o) (W * a) (H * b) ↔ Fit os o W H := by
  unfold Fit
  rw [in_sc ha hb]
  constructor
  · intro h
    exact ⟨h.1, fun p hp => (apart_sc ha hb p o).mp (h.2 _ (List.mem_map_of_mem hp))⟩
  · intro h
    refine ⟨h.1, fun p hp => ?_⟩
    obtain ⟨q, hq, rfl⟩ := List.mem_map.mp hp
    exact (apart_sc ha hb q o).mpr (h.2 q hq)
theorem endA_sc {a b : Int} {os : List O4} {e : Int} (h : EndA (os.map (scO a b)) e) : ∃ k, e = k * a := by
  rcases h with rfl | ⟨p, hp, rfl⟩
  · exact ⟨0, (Int.zero_mul a).symm⟩
  · obtain ⟨q, _, rfl⟩ := List.mem_map.mp hp
    exact ⟨q.1 + q.2.2.1, (Int.add_mul ..).symm⟩
theorem endU_sc {a b : Int} {os : List O4} {e : Int} (h : EndU (os.map (scO a b)) e) : ∃ k, e = k * b := by
  rcases h with rfl | ⟨p, hp, rfl⟩
  · exact ⟨0, (Int.zero_mul b).symm⟩
  · obtain ⟨q, _, rfl⟩ := List.mem_map.mp hp
    exact ⟨q.2.1 + q.2.2.2, (Int.add_mul ..).symm⟩
def scS (a b : Int) (s : Int × Int) : Int × Int := (s.1 * b, s.2 * a)
theorem leH_sc {a b : Int} (ha : 0 < a) (hb : 0 < b) {h : Bool} {s t : Int × Int} (g : leH h s t) : leH h (scS a b s) (scS a b t) := by
  have e1 : ∀ {x y : Int}, x < y → x * b < y * b := fun h => Int.mul_lt_mul_of_pos_right h hb
  have e2 : ∀ {x y : Int}, x < y → x * a < y * a := fun h => Int.mul_lt_mul_of_pos_right h ha
  unfold leH scS at *
  cases h
  · rw [if_neg Bool.false_ne_true] at *
    rcases g with g | ⟨g1, g2⟩
    · exact .inl (e1 g)
    · exact .inr ⟨congrArg (· * b) g1, (mul_le_iff ha).mpr g2⟩
  · rw [if_pos rfl] at *
    rcases g with g | ⟨g1, g2⟩
    · exact .inl (e2 g)
    · exact .inr ⟨congrArg (· * a) g1, (mul_le_iff hb).mpr g2⟩
theorem first_sc {a b : Int} (ha : 0 < a) (hb : 0 < b) {os : List O4} {z : Int × Int} {W H : Int} {h : Bool} {r : Option (Int × Int)} (hr : FirstS h (fun s => Fit os (atS s z) W H) r) : FirstS h (fun s => Fit (os.map (scO a b)) (atS s (z.1 * a, z.2 * b)) (W * a) (H * b)) (r.map (scS a b)) := by
  have key : ∀ s, Fit (os.map (scO a b)) (atS s (z.1 * a, z.2 * b)) (W * a) (H * b) → ∃ t, leH h (scS a b t) s ∧ Fit os (atS t z) W H := by
    intro s hs
    obtain ⟨s', g1, g2, g3, g4, g5⟩ := push hs
    obtain ⟨k, hk⟩ := endU_sc g3
    obtain ⟨j, hj⟩ := endA_sc g4
    obtain ⟨u', l'⟩ := s'
    dsimp only at hk hj g1 g2
    subst hk hj
    refine ⟨(k, j), leH_of_le g1 g2, (fit_sc ha hb os (atS (k, j) z) W H).mp ?_⟩
    exact g5
  cases r with
  | none =>
    intro s hs
    obtain ⟨t, _, ht⟩ := key s hs
    exact hr t ht
  | some s =>
    refine ⟨(fit_sc ha hb os (atS s z) W H).mpr hr.1, fun s' hs => ?_⟩
    obtain ⟨t, h1, ht⟩ := key s' hs
    exact leH_trans (leH_sc ha hb (hr.2 t ht)) h1
end Pk
namespace Pk
open PySem L2
theorem lay_list {n : Nat} {ds : List D} (h : ∀ d ∈ ds, d.canLay0 = true ∧ d.depth ≤ n) : (PyData.list ds).canLay0 = true ∧ (PyData.list ds).depth ≤ n + 1 := by
  have h3 : PyData.canLayAll0 ds = true ∧ PyData.depthAll ds ≤ n := by
    induction ds with
    | nil => simp [PyData.canLayAll0, PyData.depthAll]
    | cons o os ih =>
      obtain ⟨i1, i2⟩ := ih fun d hd => h d (List.mem_cons_of_mem _ hd)
      obtain ⟨j1, j2⟩ := h o List.mem_cons_self
      refine ⟨by simp [PyData.canLayAll0, i1, j1], ?_⟩
      simp only [PyData.depthAll]
      omega
  refine ⟨by simp only [PyData.canLay0]; exact h3.1, ?_⟩
  simp only [PyData.depth]
  have := h3.2
  omega
theorem lay_oD2 (o : O4) : (oD o).canLay0 = true ∧ (oD o).depth ≤ 2 := by simp [oD, PyData.canLay0, PyData.canLayAll0, PyData.depth, PyData.depthAll]
def rowD (os : List O4) : D := .list (os.map oD)
theorem lay_rowD (os : List O4) : (rowD os).canLay0 = true ∧ (rowD os).depth ≤ 8 := by
  have := lay_list (n := 2) (ds := os.map oD) fun d hd => by
    obtain ⟨o, _, rfl⟩ := List.mem_map.mp hd
    exact lay_oD2 o
  exact ⟨this.1, Nat.le_trans this.2 (by decide)⟩
/-- of up and left, by the habit (left: true) -/
def lsB (h : Bool) (p q : Int × Int) : Bool := if h then (if p.2 ≠ q.2 then decide (p.2 < q.2) else decide (p.1 < q.1)) else (if p.1 ≠ q.1 then decide (p.1 < q.1) else decide (p.2 < q.2))
theorem lsB_iff {h : Bool} {p q : Int × Int} : lsB h p q = true ↔ ¬ leH h q p := by
  unfold lsB leH
  cases h
  · rw [if_neg Bool.false_ne_true, if_neg Bool.false_ne_true]
    split <;> rw [decide_eq_true_eq] <;> omega
  · rw [if_pos rfl, if_pos rfl]
    split <;> rw [decide_eq_true_eq] <;> omega
/-- the turned one, the upright one -/
def comb (h : Bool) : Option (Int × Int) → Option (Int × Int) → Option ((Int × Int) × Bool)
  | none, none => none
  | none, some u => some (u, false)
  | some a, none => some (a, true)
  | some a, some u => if lsB h a u = true then some (a, true) else some (u, false)
theorem comb_ss {h : Bool} {a u : Int × Int} : comb h (some a) (some u) = if lsB h a u = true then some (a, true) else some (u, false) := rfl
def duo (p0 p1 : Int × Int → Bool) : List (Int × Int) → Option ((Int × Int) × Bool)
  | [] => none
  | q :: qs => if p0 q = true then some (q, false) else if p1 q = true then some (q, true) else duo p0 p1 qs
theorem duo_comb {h : Bool} {p0 p1 : Int × Int → Bool} : ∀ {qs : List (Int × Int)}, qs.Pairwise (leH h) → duo p0 p1 qs = comb h (qs.find? p1) (qs.find? p0)
  | [], _ => rfl
  | q :: qs, hw => by
    rw [List.pairwise_cons] at hw
    unfold duo
    rw [List.find?_cons, List.find?_cons]
    cases h0 : p0 q with
    | true =>
      rw [if_pos rfl]
      dsimp only
      cases h1 : p1 q with
      | true =>
        dsimp only
        rw [comb_ss, if_neg (by rw [lsB_iff]; exact fun h => h (leH_of_le (Int.le_refl _) (Int.le_refl _)))]
      | false =>
        dsimp only
        cases hf : qs.find? p1 with
        | none => rfl
        | some a =>
          rw [comb_ss, if_neg (by rw [lsB_iff]; exact fun h => h (hw.1 a (List.mem_of_find?_eq_some hf)))]
    | false =>
      rw [if_neg Bool.false_ne_true]
      dsimp only
      cases h1 : p1 q with
      | true =>
        rw [if_pos rfl]
        dsimp only
        cases hf : qs.find? p0 with
        | none => rfl
        | some u =>
          rw [comb_ss, if_pos]
          rw [lsB_iff]
          intro hle
          have := leH_anti hle (hw.1 u (List.mem_of_find?_eq_some hf))
          subst this
          have := List.find?_some hf
          rw [h0] at this
          cases this
      | false =>
        rw [if_neg Bool.false_ne_true]
        dsimp only
        exact duo_comb hw.2
theorem lsB_sc {a b : Int} (ha : 0 < a) (hb : 0 < b) {h : Bool} {p q : Int × Int} : lsB h (scS a b p) (scS a b q) = lsB h p q := by
  rw [Bool.eq_iff_iff, lsB_iff, lsB_iff]
  refine not_congr ⟨fun g => ?_, leH_sc ha hb⟩
  have e1 : ∀ {x y : Int}, x * b < y * b → x < y := fun h => Int.lt_of_mul_lt_mul_right h (Int.le_of_lt hb)
  have e2 : ∀ {x y : Int}, x * a < y * a → x < y := fun h => Int.lt_of_mul_lt_mul_right h (Int.le_of_lt ha)
  have e3 : ∀ {x y : Int}, x * b = y * b → x = y := fun h => Int.eq_of_mul_eq_mul_right (by omega) h
  have e4 : ∀ {x y : Int}, x * a = y * a → x = y := fun h => Int.eq_of_mul_eq_mul_right (by omega) h
  unfold leH scS at *
  cases h
  · rw [if_neg Bool.false_ne_true] at *
    rcases g with g | ⟨g1, g2⟩
    · exact .inl (e1 g)
    · exact .inr ⟨e3 g1, (mul_le_iff ha).mp g2⟩
  · rw [if_pos rfl] at *
    rcases g with g | ⟨g1, g2⟩
    · exact .inl (e2 g)
    · exact .inr ⟨e4 g1, (mul_le_iff hb).mp g2⟩
theorem comb_sc {a b : Int} (ha : 0 < a) (hb : 0 < b) {h : Bool} {x y : Option (Int × Int)} : comb h (x.map (scS a b)) (y.map (scS a b)) = (comb h x y).map fun r => (scS a b r.1, r.2) := by
  cases x <;> cases y <;> try rfl
  rw [Option.map_some, Option.map_some, comb_ss, comb_ss]
  rw [lsB_sc ha hb]
  split <;> rfl
end Pk
namespace Pk.Law
open PySem L2 PySem.Spec PyProof.Rows
def t_overlap : FS := (sSeq (sIf (tOr2 (tV (dLe (pE (dAdd (pE (dIx (pVar 0) (pC (.int 0)))) (pE (dIx (pVar 0) (pC (.int 2)))))) (pE (dIx (pVar 1) (pC (.int 0)))))) (tV (dLe (pE (dAdd (pE (dIx (pVar 1) (pC (.int 0)))) (pE (dIx (pVar 1) (pC (.int 2)))))) (pE (dIx (pVar 0) (pC (.int 0))))))) (sRet (dC (.bool false))) sNil) (sRet (dAnd (dLt (pE (dIx (pVar 0) (pC (.int 1)))) (pE (dAdd (pE (dIx (pVar 1) (pC (.int 1)))) (pE (dIx (pVar 1) (pC (.int 3))))))) (dLt (pE (dIx (pVar 1) (pC (.int 1)))) (pE (dAdd (pE (dIx (pVar 0) (pC (.int 1)))) (pE (dIx (pVar 0) (pC (.int 3))))))))))
def m_overlap : DF := defM 2 t_overlap
def t_inside : FS := (sSeq (sIf (tOr2 (tV (dLt (pE (dIx (pVar 0) (pC (.int 0)))) (pC (.int 0)))) (tV (dLt (pE (dIx (pVar 0) (pC (.int 1)))) (pC (.int 0))))) (sRet (dC (.bool false))) sNil) (sRet (dAnd (dLe (pE (dAdd (pE (dIx (pVar 0) (pC (.int 0)))) (pE (dIx (pVar 0) (pC (.int 2)))))) (pVar 1)) (dLe (pE (dAdd (pE (dIx (pVar 0) (pC (.int 1)))) (pE (dIx (pVar 0) (pC (.int 3)))))) (pVar 2)))))
def m_inside : DF := defM 3 t_inside
def L1_first_hit : FS := (sIf (tV (dCall 2 m_overlap (aCons (dIx (pVar 0) (pVar 2)) (aCons (aVar 1) aNil)))) (sRetV 2) sNil)
def t_first_hit : FS := (sSeq (sFor (iRange1 (pE (dLen (pVar 0)))) (gN 2) L1_first_hit) (sRet (dC .none)))
def m_first_hit : DF := defM 3 t_first_hit
def t_fits : FS := (sRet (dAnd (dCall 3 m_inside (aCons (aVar 1) (aCons (aVar 2) (aCons (aVar 3) aNil)))) (dIsN (pE (dCall 2 m_first_hit (aCons (aVar 0) (aCons (aVar 1) aNil)))) (pC .none))))
def m_fits : DF := defM 4 t_fits
def t_lesser : FS := (sSeq (sSet 3 (dC (.int 0))) (sSeq (sIf (tV (dEq (pE (dIx (pVar 0) (pC (.int 2)))) (pC (.str "left")))) (sSet 3 (dC (.int 1))) sNil) (sSeq (sIf (tV (dNe (pE (dIx (pVar 1) (pVar 3))) (pE (dIx (pVar 2) (pVar 3))))) (sRet (dLt (pE (dIx (pVar 1) (pVar 3))) (pE (dIx (pVar 2) (pVar 3))))) sNil) (sRet (dLt (pE (dIx (pVar 1) (pE (dSub (pC (.int 1)) (pVar 3))))) (pE (dIx (pVar 2) (pE (dSub (pC (.int 1)) (pVar 3))))))))))
def m_lesser : DF := defM 4 t_lesser
def L1_ends : FS := (sSeq (sSet 4 (dAdd (pE (dIx (pVar 3) (pVar 1))) (pE (dIx (pVar 3) (pE (dAdd (pVar 1) (pC (.int 2)))))))) (sIf (tV (dNin (pVar 4) (pVar 2))) (sApp 2 (dVar 4)) sNil))
def t_ends : FS := (sSeq (sSet 2 (dLst (aCons (dC (.int 0)) aNil))) (sSeq (sFor (iV 0) (gN 3) L1_ends) (sRet (dSorted (pVar 2)))))
def m_ends : DF := defM 5 t_ends
def L1_first_spot : FS := (sIf (tV (dCall 4 m_fits (aCons (aVar 0) (aCons (dTup (aCons (dVar 7) (aCons (dVar 6) (aCons (dVar 2) (aCons (dVar 3) aNil))))) (aCons (dIx (pVar 1) (pC (.int 0))) (aCons (dIx (pVar 1) (pC (.int 1))) aNil)))))) (sRet (dTup (aCons (dVar 6) (aCons (dVar 7) aNil)))) sNil)
def L2_first_spot : FS := (sFrz 5 (sFor (iV 5) (gN 7) L1_first_spot))
def L3_first_spot : FS := (sIf (tV (dCall 4 m_fits (aCons (aVar 0) (aCons (dTup (aCons (dVar 7) (aCons (dVar 6) (aCons (dVar 2) (aCons (dVar 3) aNil))))) (aCons (dIx (pVar 1) (pC (.int 0))) (aCons (dIx (pVar 1) (pC (.int 1))) aNil)))))) (sRet (dTup (aCons (dVar 6) (aCons (dVar 7) aNil)))) sNil)
def L4_first_spot : FS := (sFrz 4 (sFor (iV 4) (gN 6) L3_first_spot))
def t_first_spot : FS := (sSeq (sSet 4 (dCall 2 m_ends (aCons (aVar 0) (aCons (dC (.int 1)) aNil)))) (sSeq (sSet 5 (dCall 2 m_ends (aCons (aVar 0) (aCons (dC (.int 0)) aNil)))) (sSeq (sIf (tV (dEq (pE (dIx (pVar 1) (pC (.int 2)))) (pC (.str "low")))) (sSeq (sFrz 4 (sFor (iV 4) (gN 6) L2_first_spot)) (sRet (dC .none))) sNil) (sSeq (sFrz 5 (sFor (iV 5) (gN 7) L4_first_spot)) (sRet (dC .none))))))
def m_first_spot : DF := defM 8 t_first_spot
def t_first_on : FS := (sSeq (sSet 5 (dCall 4 m_first_spot (aCons (aVar 0) (aCons (aVar 1) (aCons (aVar 2) (aCons (aVar 3) aNil)))))) (sSeq (sSet 6 (dC .none)) (sSeq (sIf (tV (dVar 4)) (sSet 6 (dCall 4 m_first_spot (aCons (aVar 0) (aCons (aVar 1) (aCons (aVar 3) (aCons (aVar 2) aNil)))))) sNil) (sSeq (sIf (tAnd2 (tV (dIsN (pVar 6) (pC .none))) (tV (dIsN (pVar 5) (pC .none)))) (sRet (dC .none)) sNil) (sSeq (sFrz 6 (sFrz 5 (sIf (tOr2 (tV (dIsN (pVar 6) (pC .none))) (tAnd2 (tV (dNotN (pVar 5) (pC .none))) (tNot1 (tV (dCall 3 m_lesser (aCons (aVar 1) (aCons (aVar 6) (aCons (aVar 5) aNil)))))))) (sRet (dTup (aCons (dIx (pVar 5) (pC (.int 0))) (aCons (dIx (pVar 5) (pC (.int 1))) (aCons (dC (.bool false)) aNil))))) sNil))) (sRet (dTup (aCons (dIx (pVar 6) (pC (.int 0))) (aCons (dIx (pVar 6) (pC (.int 1))) (aCons (dC (.bool true)) aNil))))))))))
def m_first_on : DF := defM 7 t_first_on
def L1_first_place : FS := (sSeq (sSet 6 (dCall 5 m_first_on (aCons (dIx (pVar 1) (pVar 5)) (aCons (dIx (pVar 0) (pVar 5)) (aCons (aVar 2) (aCons (aVar 3) (aCons (aVar 4) aNil))))))) (sIf (tV (dNotN (pVar 6) (pC .none))) (sRet (dTup (aCons (dVar 5) (aCons (dIx (pVar 6) (pC (.int 0))) (aCons (dIx (pVar 6) (pC (.int 1))) (aCons (dIx (pVar 6) (pC (.int 2))) aNil)))))) sNil))
def t_first_place : FS := (sSeq (sFor (iRange1 (pE (dLen (pVar 0)))) (gN 5) L1_first_place) (sRet (dC .none)))
def m_first_place : DF := defM 7 t_first_place
def t__law_cell_at : FS := (sSeq (sIf (tV (dLt (pVar 1) (pE (dLen (pVar 0))))) (sRet (dIx (pVar 0) (pVar 1))) sNil) (sRet (dC (.int 0))))
def m__law_cell_at : DF := defM 2 t__law_cell_at
def t__law_whole : FS := (sRet (dAnd (dIsi .int (pVar 0)) (dNot (dIsi .bool (pVar 0)))))
def m__law_whole : DF := defM 1 t__law_whole
def t__law_apart : FS := (sRet (dOr (dLe (pE (dAdd (pE (dIx (pVar 0) (pVar 2))) (pE (dIx (pVar 0) (pE (dAdd (pVar 2) (pC (.int 2)))))))) (pE (dIx (pVar 1) (pVar 2)))) (dLe (pE (dAdd (pE (dIx (pVar 1) (pVar 2))) (pE (dIx (pVar 1) (pE (dAdd (pVar 2) (pC (.int 2)))))))) (pE (dIx (pVar 0) (pVar 2))))))
def m__law_apart : DF := defM 3 t__law_apart
def L1__law_good : FS := (sIf (tAnd2 (tNot1 (tV (dCall 3 m__law_apart (aCons (aVar 1) (aCons (aVar 4) (aCons (dC (.int 0)) aNil)))))) (tNot1 (tV (dCall 3 m__law_apart (aCons (aVar 1) (aCons (aVar 4) (aCons (dC (.int 1)) aNil))))))) (sRet (dC (.bool false))) sNil)
def t__law_good : FS := (sSeq (sIf (tOr2 (tV (dLt (pE (dIx (pVar 1) (pC (.int 0)))) (pC (.int 0)))) (tOr2 (tV (dLt (pE (dIx (pVar 1) (pC (.int 1)))) (pC (.int 0)))) (tOr2 (tV (dGt (pE (dAdd (pE (dIx (pVar 1) (pC (.int 0)))) (pE (dIx (pVar 1) (pC (.int 2)))))) (pVar 2))) (tV (dGt (pE (dAdd (pE (dIx (pVar 1) (pC (.int 1)))) (pE (dIx (pVar 1) (pC (.int 3)))))) (pVar 3)))))) (sRet (dC (.bool false))) sNil) (sSeq (sFor (iV 0) (gN 4) L1__law_good) (sRet (dC (.bool true)))))
def m__law_good : DF := defM 5 t__law_good
def CE1__law_spots : FE := (dTup (aCons (dDiv (pVar 1) (pE (dIx (pVar 0) (pC (.int 0))))) (aCons (dMod (pVar 1) (pE (dIx (pVar 0) (pC (.int 0))))) aNil)))
def CE2__law_spots : FE := (dTup (aCons (dMod (pVar 1) (pE (dIx (pVar 0) (pC (.int 1))))) (aCons (dDiv (pVar 1) (pE (dIx (pVar 0) (pC (.int 1))))) aNil)))
def t__law_spots : FS := (sSeq (sIf (tV (dEq (pE (dIx (pVar 0) (pC (.int 2)))) (pC (.str "low")))) (sRet (dComp 1 (iRange1 (pE (dMul (pE (dIx (pVar 0) (pC (.int 0)))) (pE (dIx (pVar 0) (pC (.int 1))))))) tTrue CE1__law_spots)) sNil) (sRet (dComp 1 (iRange1 (pE (dMul (pE (dIx (pVar 0) (pC (.int 0)))) (pE (dIx (pVar 0) (pC (.int 1))))))) tTrue CE2__law_spots)))
def m__law_spots : DF := defM 2 t__law_spots
def CE1__law_shelves : FE := (dTup (aCons (dC (.int 1)) (aCons (dC (.int 1)) (aCons (dIx (pE (dLst (aCons (dC (.str "low")) (aCons (dC (.str "left")) aNil)))) (pE (dMod (pVar 2) (pC (.int 2))))) aNil))))
def L2__law_shelves : FS := (sSeq (sSet 3 (dMod (pE (dAdd (pE (dMul (pE (dCall 2 m__law_cell_at (aCons (aVar 0) (aCons (dAdd (pC (.int 3)) (pVar 2)) aNil)))) (pC (.int 48271)))) (pC (.int 11)))) (pC (.int 2147483647)))) (sApp 1 (dTup (aCons (dAdd (pC (.int 1)) (pE (dMod (pVar 3) (pC (.int 6))))) (aCons (dAdd (pC (.int 1)) (pE (dMod (pE (dDiv (pVar 3) (pC (.int 6)))) (pC (.int 6))))) (aCons (dIx (pE (dLst (aCons (dC (.str "low")) (aCons (dC (.str "left")) aNil)))) (pE (dMod (pE (dDiv (pVar 3) (pC (.int 36)))) (pC (.int 2))))) aNil))))))
def t__law_shelves : FS := (sSeq (sSet 1 (dComp 2 (iRange1 (pE (dMod (pE (dCall 2 m__law_cell_at (aCons (aVar 0) (aCons (dC (.int 1)) aNil)))) (pC (.int 7))))) tTrue CE1__law_shelves)) (sSeq (sFor (iRange1 (pE (dAdd (pC (.int 1)) (pE (dMod (pE (dCall 2 m__law_cell_at (aCons (aVar 0) (aCons (dC (.int 2)) aNil)))) (pC (.int 3))))))) (gN 2) L2__law_shelves) (sRetV 1)))
def m__law_shelves : DF := defM 4 t__law_shelves
def L1__law_rows : FS := (sSeq (sSet 6 (dMod (pE (dAdd (pE (dMul (pVar 6) (pC (.int 48271)))) (pE (dCall 2 m__law_cell_at (aCons (aVar 0) (aCons (dAdd (pC (.int 25)) (pVar 8)) aNil)))))) (pC (.int 2147483647)))) (sApp 5 (dTup (aCons (dSub (pE (dMod (pVar 6) (pC (.int 8)))) (pC (.int 2))) (aCons (dSub (pE (dMod (pE (dDiv (pVar 6) (pC (.int 8)))) (pC (.int 8)))) (pC (.int 2))) (aCons (dAdd (pC (.int 1)) (pE (dMod (pE (dDiv (pVar 6) (pC (.int 64)))) (pC (.int 4))))) (aCons (dAdd (pC (.int 1)) (pE (dMod (pE (dDiv (pVar 6) (pC (.int 256)))) (pC (.int 4))))) aNil)))))))
def L2__law_rows : FS := (sSeq (sSet 5 (dLst aNil)) (sSeq (sIf (tV (dGe (pVar 4) (pVar 2))) (sSeq (sSet 6 (dMod (pE (dCall 2 m__law_cell_at (aCons (aVar 0) (aCons (dAdd (pC (.int 7)) (pVar 4)) aNil)))) (pC (.int 2147483647)))) (sSeq (sSet 7 (dMod (pE (dCall 2 m__law_cell_at (aCons (aVar 0) (aCons (dAdd (pC (.int 16)) (pVar 4)) aNil)))) (pC (.int 5)))) (sSeq (sIf (tV (dEq (pE (dMod (pE (dDiv (pE (dCall 2 m__law_cell_at (aCons (aVar 0) (aCons (dAdd (pC (.int 16)) (pVar 4)) aNil)))) (pC (.int 5)))) (pC (.int 6)))) (pC (.int 1)))) (sSet 7 (dAdd (pC (.int 5)) (pE (dMod (pE (dDiv (pE (dCall 2 m__law_cell_at (aCons (aVar 0) (aCons (dAdd (pC (.int 16)) (pVar 4)) aNil)))) (pC (.int 30)))) (pC (.int 12)))))) sNil) (sFor (iRange1 (pVar 7)) (gN 8) L1__law_rows)))) sNil) (sFrz 5 (sApp 3 (dVar 5)))))
def t__law_rows : FS := (sSeq (sSet 3 (dLst aNil)) (sSeq (sFor (iRange1 (pE (dLen (pVar 1)))) (gN 4) L2__law_rows) (sRetV 3)))
def m__law_rows : DF := defM 9 t__law_rows
def L1__law_due : FS := (sSeq (sSet 9 (dTup (aCons (dIx (pVar 8) (pC (.int 1))) (aCons (dIx (pVar 8) (pC (.int 0))) (aCons (dVar 2) (aCons (dVar 3) aNil)))))) (sSeq (sIf (tV (dCall 4 m__law_good (aCons (aVar 7) (aCons (aVar 9) (aCons (dIx (pVar 6) (pC (.int 0))) (aCons (dIx (pVar 6) (pC (.int 1))) aNil)))))) (sRet (dTup (aCons (dVar 5) (aCons (dIx (pVar 8) (pC (.int 0))) (aCons (dIx (pVar 8) (pC (.int 1))) (aCons (dC (.bool false)) aNil)))))) sNil) (sSeq (sSet 10 (dTup (aCons (dIx (pVar 8) (pC (.int 1))) (aCons (dIx (pVar 8) (pC (.int 0))) (aCons (dVar 3) (aCons (dVar 2) aNil)))))) (sIf (tAnd2 (tV (dVar 4)) (tV (dCall 4 m__law_good (aCons (aVar 7) (aCons (aVar 10) (aCons (dIx (pVar 6) (pC (.int 0))) (aCons (dIx (pVar 6) (pC (.int 1))) aNil))))))) (sRet (dTup (aCons (dVar 5) (aCons (dIx (pVar 8) (pC (.int 0))) (aCons (dIx (pVar 8) (pC (.int 1))) (aCons (dC (.bool true)) aNil)))))) sNil))))
def L2__law_due : FS := (sSeq (sSet 6 (dIx (pVar 0) (pVar 5))) (sSeq (sSet 7 (dIx (pVar 1) (pVar 5))) (sFor (iE (dCall 1 m__law_spots (aCons (aVar 6) aNil))) (gN 8) L1__law_due)))
def t__law_due : FS := (sSeq (sFor (iRange1 (pE (dLen (pVar 0)))) (gN 5) L2__law_due) (sRet (dC .none)))
def m__law_due : DF := defM 11 t__law_due
def L1__law_alike : FS := (sIf (tNot1 (tV (dCall 1 m__law_whole (aCons (dIx (pVar 0) (pVar 3)) aNil)))) (sRet (dC (.bool false))) sNil)
def t__law_alike : FS := (sSeq (sIf (tV (dIsN (pVar 1) (pC .none))) (sRet (dIsN (pVar 0) (pC .none))) sNil) (sSeq (sIf (tOr2 (tNot1 (tV (dIsi .tuple (pVar 0)))) (tV (dNe (pE (dLen (pVar 0))) (pC (.int 4))))) (sRet (dC (.bool false))) sNil) (sSeq (sIf (tNot1 (tV (dIsi .bool (pE (dIx (pVar 0) (pC (.int 3))))))) (sRet (dC (.bool false))) sNil) (sSeq (sFor (iRange1 (pC (.int 3))) (gN 3) L1__law_alike) (sRet (dEq (pVar 0) (pE (dTup (aCons (dIx (pVar 1) (pC (.int 0))) (aCons (dMul (pE (dIx (pVar 1) (pC (.int 1)))) (pVar 2)) (aCons (dMul (pE (dIx (pVar 1) (pC (.int 2)))) (pVar 2)) (aCons (dIx (pVar 1) (pC (.int 3))) aNil))))))))))))
def m__law_alike : DF := defM 4 t__law_alike
def CE1_law : FE := (dTup (aCons (dMul (pE (dIx (pVar 10) (pC (.int 0)))) (pVar 1)) (aCons (dMul (pE (dIx (pVar 10) (pC (.int 1)))) (pVar 1)) (aCons (dIx (pVar 10) (pC (.int 2))) aNil))))
def CE2_law : FE := (dF (dAdd (pE (dTup (aCons (dMul (pE (dIx (pVar 13) (pC (.int 0)))) (pVar 1)) (aCons (dMul (pE (dIx (pVar 13) (pC (.int 1)))) (pVar 1)) aNil)))) (pE (dTup (aCons (dMul (pE (dIx (pVar 13) (pC (.int 2)))) (pVar 1)) (aCons (dMul (pE (dIx (pVar 13) (pC (.int 3)))) (pVar 1)) aNil))))))
def L3_law : FS := (sApp 11 (dF (dComp 13 (iV 12) tTrue CE2_law)))
def CE4_law : FE := (dF (dList (pVar 12)))
def t_law : FS := (sSeq (sSet 1 (dAdd (pC (.int 1)) (pE (dMod (pE (dCall 2 m__law_cell_at (aCons (aVar 0) (aCons (dC (.int 0)) aNil)))) (pC (.int 160000)))))) (sSeq (sSet 2 (dCall 1 m__law_shelves (aCons (aVar 0) aNil))) (sSeq (sFrz 2 (sSet 3 (dCall 3 m__law_rows (aCons (aVar 0) (aCons (aVar 2) (aCons (dMod (pE (dCall 2 m__law_cell_at (aCons (aVar 0) (aCons (dC (.int 1)) aNil)))) (pC (.int 7))) aNil)))))) (sSeq (sSet 4 (dMod (pE (dAdd (pE (dMul (pE (dCall 2 m__law_cell_at (aCons (aVar 0) (aCons (dC (.int 6)) aNil)))) (pC (.int 48271)))) (pC (.int 11)))) (pC (.int 2147483647)))) (sSeq (sSet 5 (dAdd (pC (.int 1)) (pE (dMod (pVar 4) (pC (.int 5)))))) (sSeq (sSet 6 (dAdd (pC (.int 1)) (pE (dMod (pE (dDiv (pVar 4) (pC (.int 5)))) (pC (.int 5)))))) (sSeq (sSet 7 (dGt (pE (dMod (pE (dDiv (pVar 4) (pC (.int 25)))) (pC (.int 3)))) (pC (.int 0)))) (sSeq (sFrz 2 (sFrz 3 (sSet 8 (dCall 5 m__law_due (aCons (aVar 2) (aCons (aVar 3) (aCons (aVar 5) (aCons (aVar 6) (aCons (aVar 7) aNil))))))))) (sSeq (sFrz 2 (sSet 9 (dComp 10 (iV 2) tTrue CE1_law))) (sSeq (sSet 11 (dLst aNil)) (sSeq (sFrz 3 (sFor (iV 3) (gN 12) L3_law)) (sSeq (sFrz 11 (sSet 14 (dComp 12 (iV 11) tTrue CE4_law))) (sSeq (sSet 15 (dList (pVar 9))) (sSeq (sFrz 15 (sFrz 14 (sSet 16 (dCall 5 m_first_place (aCons (aVar 15) (aCons (aVar 14) (aCons (dMul (pVar 5) (pVar 1)) (aCons (dMul (pVar 6) (pVar 1)) (aCons (aVar 7) aNil))))))))) (sFrz 16 (sFrz 8 (sRet (dAnd (dEq (pVar 14) (pVar 11)) (dAnd (dEq (pVar 15) (pVar 9)) (dCall 3 m__law_alike (aCons (aVar 16) (aCons (aVar 8) (aCons (aVar 1) aNil)))))))))))))))))))))))
def m_law : DF := defM 17 t_law
end Pk.Law
namespace Pk.Law
open PySem L2 PySem.Spec PyProof.Rows
def top (i : Nat) : Stmt := PySem.Challenge.pw_packshelf_k06_the_first_place.main.body.getD i (.Pass ⟨0, 0, 0, 0⟩)

abbrev s_overlap : Stmt := top 1
abbrev s_inside : Stmt := top 2
abbrev s_first_hit : Stmt := top 3
abbrev s_fits : Stmt := top 4
abbrev s_lesser : Stmt := top 6
abbrev s_ends : Stmt := top 7
abbrev s_first_spot : Stmt := top 8
abbrev s_first_on : Stmt := top 9
abbrev s_first_place : Stmt := top 10
abbrev s__law_cell_at : Stmt := top 12
abbrev s__law_whole : Stmt := top 13
abbrev s__law_apart : Stmt := top 14
abbrev s__law_good : Stmt := top 15
abbrev s__law_spots : Stmt := top 16
abbrev s__law_shelves : Stmt := top 17
abbrev s__law_rows : Stmt := top 18
abbrev s__law_due : Stmt := top 19
abbrev s__law_alike : Stmt := top 20
abbrev s_law : Stmt := top 21
section
variable {P : Program} {w : World} {K : PySem.W.Frag} {mg : Str → Option Value} {base : Heap} {G : Gx}
theorem sc_overlap : FnScope ["one", "other"] ["one", "other"] (defScope s_overlap) := ⟨rfl, rfl, rfl, by decide +kernel, rfl, by decide +kernel, by decide +kernel⟩
theorem b_overlap : Body P w K mg base G 0 ["one", "other"] "overlap" s_overlap t_overlap := fun f cdv A outer s H E hr => by
  have nd := (sc_overlap).nd
  have hp := hp_ok (P := P) (w := w) (K := K) (mg := mg) (base := base) (N := ["one", "other"]) (qual := "overlap") (scope := defScope s_overlap) (f := f) (cd := cdv) (A := A) (outer := outer) (s := s) (H := H) (E := E)
  have tk := tk_ok (P := P) (w := w) (K := K) (mg := mg) (base := base) (N := ["one", "other"]) (qual := "overlap") (scope := defScope s_overlap) (f := f) (cd := cdv) (A := A) (outer := outer) (s := s) (H := H) (E := E)
  have hu := hr.units
  have hu5 := Nat.lt_of_le_of_lt (show (A.deeper (envOfC "overlap" (defScope s_overlap) s.heap.objs.size f cdv)).units + 65 ≤ (A.deeper (envOfC "overlap" (defScope s_overlap) s.heap.objs.size f cdv)).units + 16 * 0 + 200 by omega) hr.un
  exact (b_cons (s_if (w_pt (w_or (t_le (p_E (d_add (p_E (d_ix (p_var 0) p_int)) (p_E (d_ix (p_var 0) p_int)))) (p_E (d_ix (p_var 1) p_int))) (w_or1 (t_le (p_E (d_add (p_E (d_ix (p_var 1) p_int)) (p_E (d_ix (p_var 1) p_int)))) (p_E (d_ix (p_var 0) p_int)))))) (b_one (s_ret d_bl)) b_nil) (b_one (s_ret (d_and (d_lt (p_E (d_ix (p_var 0) p_int)) (p_E (d_add (p_E (d_ix (p_var 1) p_int)) (p_E (d_ix (p_var 1) p_int))))) (d_one (d_lt (p_E (d_ix (p_var 1) p_int)) (p_E (d_add (p_E (d_ix (p_var 0) p_int)) (p_E (d_ix (p_var 0) p_int))))))))))
theorem g_overlap (F : DefAt K mg "overlap" s_overlap) : Good P w K mg base G 1 "overlap" ["one", "other"] m_overlap := good_def F sc_overlap (fun _ _ _ _ _ _ us hl => match us, hl with | [_, _], _ => rfl) (b_overlap )
theorem sc_inside : FnScope ["outline", "width", "height"] ["outline", "width", "height"] (defScope s_inside) := ⟨rfl, rfl, rfl, by decide +kernel, rfl, by decide +kernel, by decide +kernel⟩
theorem b_inside : Body P w K mg base G 0 ["outline", "width", "height"] "inside" s_inside t_inside := fun f cdv A outer s H E hr => by
  have nd := (sc_inside).nd
  have hp := hp_ok (P := P) (w := w) (K := K) (mg := mg) (base := base) (N := ["outline", "width", "height"]) (qual := "inside") (scope := defScope s_inside) (f := f) (cd := cdv) (A := A) (outer := outer) (s := s) (H := H) (E := E)
  have tk := tk_ok (P := P) (w := w) (K := K) (mg := mg) (base := base) (N := ["outline", "width", "height"]) (qual := "inside") (scope := defScope s_inside) (f := f) (cd := cdv) (A := A) (outer := outer) (s := s) (H := H) (E := E)
  have hu := hr.units
  have hu5 := Nat.lt_of_le_of_lt (show (A.deeper (envOfC "inside" (defScope s_inside) s.heap.objs.size f cdv)).units + 65 ≤ (A.deeper (envOfC "inside" (defScope s_inside) s.heap.objs.size f cdv)).units + 16 * 0 + 200 by omega) hr.un
  exact (b_cons (s_if (w_pt (w_or (t_lt (p_E (d_ix (p_var 0) p_int)) p_int) (w_or1 (t_lt (p_E (d_ix (p_var 0) p_int)) p_int)))) (b_one (s_ret d_bl)) b_nil) (b_one (s_ret (d_and (d_le (p_E (d_add (p_E (d_ix (p_var 0) p_int)) (p_E (d_ix (p_var 0) p_int)))) (p_var 1)) (d_one (d_le (p_E (d_add (p_E (d_ix (p_var 0) p_int)) (p_E (d_ix (p_var 0) p_int)))) (p_var 2)))))))
theorem g_inside (F : DefAt K mg "inside" s_inside) : Good P w K mg base G 1 "inside" ["outline", "width", "height"] m_inside := good_def F sc_inside (fun _ _ _ _ _ _ us hl => match us, hl with | [_, _, _], _ => rfl) (b_inside )
theorem sc_first_hit : FnScope ["outlines", "outline", "number"] ["outlines", "outline"] (defScope s_first_hit) := ⟨rfl, rfl, rfl, by decide +kernel, rfl, by decide +kernel, by decide +kernel⟩
theorem b_first_hit (G_overlap : Good P w K mg base G 1 "overlap" ["one", "other"] m_overlap) (h_len : mg "len" = none) (h_range : mg "range" = none) : Body P w K mg base G 1 ["outlines", "outline", "number"] "first_hit" s_first_hit t_first_hit := fun f cdv A outer s H E hr => by
  have nd := (sc_first_hit).nd
  have hp := hp_ok (P := P) (w := w) (K := K) (mg := mg) (base := base) (N := ["outlines", "outline", "number"]) (qual := "first_hit") (scope := defScope s_first_hit) (f := f) (cd := cdv) (A := A) (outer := outer) (s := s) (H := H) (E := E)
  have tk := tk_ok (P := P) (w := w) (K := K) (mg := mg) (base := base) (N := ["outlines", "outline", "number"]) (qual := "first_hit") (scope := defScope s_first_hit) (f := f) (cd := cdv) (A := A) (outer := outer) (s := s) (H := H) (E := E)
  have hu := hr.units
  have hu5 := Nat.lt_of_le_of_lt (show (A.deeper (envOfC "first_hit" (defScope s_first_hit) s.heap.objs.size f cdv)).units + 65 ≤ (A.deeper (envOfC "first_hit" (defScope s_first_hit) s.heap.objs.size f cdv)).units + 16 * 1 + 200 by omega) hr.un
  exact (b_cons (s_for hp rfl (i_range1 rfl h_range (p_E (d_len rfl h_len (p_var 0)))) (pg_name (i := 2) nd rfl (by first | exact Or.inl rfl | exact Or.inr rfl)) (tgs_name 2) (b_one (s_if (t_val (c_call G_overlap (hr.mono (by decide)) tk (a_cons (d_ix (p_var 0) (p_var 2)) (a_cons (a_var 1) a_nil)))) (b_one (s_retv 2)) b_nil))) (b_one (s_ret d_non)))
theorem g_first_hit (F : DefAt K mg "first_hit" s_first_hit) (G_overlap : Good P w K mg base G 1 "overlap" ["one", "other"] m_overlap) (h_len : mg "len" = none) (h_range : mg "range" = none) : Good P w K mg base G 2 "first_hit" ["outlines", "outline"] m_first_hit := good_def F sc_first_hit (fun _ _ _ _ _ _ us hl => match us, hl with | [_, _], _ => rfl) (b_first_hit G_overlap h_len h_range)
theorem sc_fits : FnScope ["outlines", "outline", "width", "height"] ["outlines", "outline", "width", "height"] (defScope s_fits) := ⟨rfl, rfl, rfl, by decide +kernel, rfl, by decide +kernel, by decide +kernel⟩
theorem b_fits (G_first_hit : Good P w K mg base G 2 "first_hit" ["outlines", "outline"] m_first_hit) (G_inside : Good P w K mg base G 1 "inside" ["outline", "width", "height"] m_inside) : Body P w K mg base G 2 ["outlines", "outline", "width", "height"] "fits" s_fits t_fits := fun f cdv A outer s H E hr => by
  have nd := (sc_fits).nd
  have hp := hp_ok (P := P) (w := w) (K := K) (mg := mg) (base := base) (N := ["outlines", "outline", "width", "height"]) (qual := "fits") (scope := defScope s_fits) (f := f) (cd := cdv) (A := A) (outer := outer) (s := s) (H := H) (E := E)
  have tk := tk_ok (P := P) (w := w) (K := K) (mg := mg) (base := base) (N := ["outlines", "outline", "width", "height"]) (qual := "fits") (scope := defScope s_fits) (f := f) (cd := cdv) (A := A) (outer := outer) (s := s) (H := H) (E := E)
  have hu := hr.units
  have hu5 := Nat.lt_of_le_of_lt (show (A.deeper (envOfC "fits" (defScope s_fits) s.heap.objs.size f cdv)).units + 65 ≤ (A.deeper (envOfC "fits" (defScope s_fits) s.heap.objs.size f cdv)).units + 16 * 2 + 200 by omega) hr.un
  exact (b_one (s_ret (d_and (c_call G_inside (hr.mono (by decide)) tk (a_cons (a_var 1) (a_cons (a_var 2) (a_cons (a_var 3) a_nil)))) (d_one (d_isN (p_E (c_call G_first_hit (hr.mono (by decide)) tk (a_cons (a_var 0) (a_cons (a_var 1) a_nil)))) p_non)))))
theorem g_fits (F : DefAt K mg "fits" s_fits) (G_first_hit : Good P w K mg base G 2 "first_hit" ["outlines", "outline"] m_first_hit) (G_inside : Good P w K mg base G 1 "inside" ["outline", "width", "height"] m_inside) : Good P w K mg base G 3 "fits" ["outlines", "outline", "width", "height"] m_fits := good_def F sc_fits (fun _ _ _ _ _ _ us hl => match us, hl with | [_, _, _, _], _ => rfl) (b_fits G_first_hit G_inside)
theorem sc_lesser : FnScope ["shelf", "one", "other", "first"] ["shelf", "one", "other"] (defScope s_lesser) := ⟨rfl, rfl, rfl, by decide +kernel, rfl, by decide +kernel, by decide +kernel⟩
theorem b_lesser : Body P w K mg base G 0 ["shelf", "one", "other", "first"] "lesser" s_lesser t_lesser := fun f cdv A outer s H E hr => by
  have nd := (sc_lesser).nd
  have hp := hp_ok (P := P) (w := w) (K := K) (mg := mg) (base := base) (N := ["shelf", "one", "other", "first"]) (qual := "lesser") (scope := defScope s_lesser) (f := f) (cd := cdv) (A := A) (outer := outer) (s := s) (H := H) (E := E)
  have tk := tk_ok (P := P) (w := w) (K := K) (mg := mg) (base := base) (N := ["shelf", "one", "other", "first"]) (qual := "lesser") (scope := defScope s_lesser) (f := f) (cd := cdv) (A := A) (outer := outer) (s := s) (H := H) (E := E)
  have hu := hr.units
  have hu5 := Nat.lt_of_le_of_lt (show (A.deeper (envOfC "lesser" (defScope s_lesser) s.heap.objs.size f cdv)).units + 65 ≤ (A.deeper (envOfC "lesser" (defScope s_lesser) s.heap.objs.size f cdv)).units + 16 * 0 + 200 by omega) hr.un
  exact (b_cons (s_set 3 nd d_int) (b_cons (s_if (t_eq hu (p_E (d_ix (p_var 0) p_int)) p_str) (b_one (s_set 3 nd d_int)) b_nil) (b_cons (s_if (t_ne hu (p_E (d_ix (p_var 1) (p_var 3))) (p_E (d_ix (p_var 2) (p_var 3)))) (b_one (s_ret (d_lt (p_E (d_ix (p_var 1) (p_var 3))) (p_E (d_ix (p_var 2) (p_var 3)))))) b_nil) (b_one (s_ret (d_lt (p_E (d_ix (p_var 1) (p_E (d_sub p_int (p_var 3))))) (p_E (d_ix (p_var 2) (p_E (d_sub p_int (p_var 3)))))))))))
theorem g_lesser (F : DefAt K mg "lesser" s_lesser) : Good P w K mg base G 1 "lesser" ["shelf", "one", "other"] m_lesser := good_def F sc_lesser (fun _ _ _ _ _ _ us hl => match us, hl with | [_, _, _], _ => rfl) (b_lesser )
theorem sc_ends : FnScope ["outlines", "side", "found", "outline", "end"] ["outlines", "side"] (defScope s_ends) := ⟨rfl, rfl, rfl, by decide +kernel, rfl, by decide +kernel, by decide +kernel⟩
theorem b_ends (h_sorted : mg "sorted" = none) : Body P w K mg base G 0 ["outlines", "side", "found", "outline", "end"] "ends" s_ends t_ends := fun f cdv A outer s H E hr => by
  have nd := (sc_ends).nd
  have hp := hp_ok (P := P) (w := w) (K := K) (mg := mg) (base := base) (N := ["outlines", "side", "found", "outline", "end"]) (qual := "ends") (scope := defScope s_ends) (f := f) (cd := cdv) (A := A) (outer := outer) (s := s) (H := H) (E := E)
  have tk := tk_ok (P := P) (w := w) (K := K) (mg := mg) (base := base) (N := ["outlines", "side", "found", "outline", "end"]) (qual := "ends") (scope := defScope s_ends) (f := f) (cd := cdv) (A := A) (outer := outer) (s := s) (H := H) (E := E)
  have hu := hr.units
  have hu5 := Nat.lt_of_le_of_lt (show (A.deeper (envOfC "ends" (defScope s_ends) s.heap.objs.size f cdv)).units + 65 ≤ (A.deeper (envOfC "ends" (defScope s_ends) s.heap.objs.size f cdv)).units + 16 * 0 + 200 by omega) hr.un
  exact (b_cons (s_set 2 nd (d_lst (a_cons d_int a_nil))) (b_cons (s_for hp rfl (i_var 0) (pg_name (i := 3) nd rfl (by first | exact Or.inl rfl | exact Or.inr rfl)) (tgs_name 3) (b_cons (s_set 4 nd (d_add (p_E (d_ix (p_var 3) (p_var 1))) (p_E (d_ix (p_var 3) (p_E (d_add (p_var 1) p_int)))))) (b_one (s_if (t_nin hu5 (p_var 4) (p_var 2)) (b_one (s_app 2 (d_var 4) (hm := pe_bm PySem.F.plainAttrs_list PySem.F.slot_list_append PySem.F.type_list_append mt_append (pe_var (i := 2) rfl (by first | exact Or.inl rfl | exact Or.inr (Or.inl rfl))) (pa_cons (d_var 4) pa_nil)))) b_nil)))) (b_one (s_ret (d_sorted rfl h_sorted (p_var 2))))))
theorem g_ends (F : DefAt K mg "ends" s_ends) (h_sorted : mg "sorted" = none) : Good P w K mg base G 1 "ends" ["outlines", "side"] m_ends := good_def F sc_ends (fun _ _ _ _ _ _ us hl => match us, hl with | [_, _], _ => rfl) (b_ends h_sorted)
theorem sc_first_spot : FnScope ["outlines", "shelf", "wide", "high", "ups", "lefts", "up", "left"] ["outlines", "shelf", "wide", "high"] (defScope s_first_spot) := ⟨rfl, rfl, rfl, by decide +kernel, rfl, by decide +kernel, by decide +kernel⟩
theorem b_first_spot (G_ends : Good P w K mg base G 1 "ends" ["outlines", "side"] m_ends) (G_fits : Good P w K mg base G 3 "fits" ["outlines", "outline", "width", "height"] m_fits) : Body P w K mg base G 3 ["outlines", "shelf", "wide", "high", "ups", "lefts", "up", "left"] "first_spot" s_first_spot t_first_spot := fun f cdv A outer s H E hr => by
  have nd := (sc_first_spot).nd
  have hp := hp_ok (P := P) (w := w) (K := K) (mg := mg) (base := base) (N := ["outlines", "shelf", "wide", "high", "ups", "lefts", "up", "left"]) (qual := "first_spot") (scope := defScope s_first_spot) (f := f) (cd := cdv) (A := A) (outer := outer) (s := s) (H := H) (E := E)
  have tk := tk_ok (P := P) (w := w) (K := K) (mg := mg) (base := base) (N := ["outlines", "shelf", "wide", "high", "ups", "lefts", "up", "left"]) (qual := "first_spot") (scope := defScope s_first_spot) (f := f) (cd := cdv) (A := A) (outer := outer) (s := s) (H := H) (E := E)
  have hu := hr.units
  have hu5 := Nat.lt_of_le_of_lt (show (A.deeper (envOfC "first_spot" (defScope s_first_spot) s.heap.objs.size f cdv)).units + 65 ≤ (A.deeper (envOfC "first_spot" (defScope s_first_spot) s.heap.objs.size f cdv)).units + 16 * 3 + 200 by omega) hr.un
  exact (b_cons (s_set 4 nd (c_call G_ends (hr.mono (by decide)) tk (a_cons (a_var 0) (a_cons d_int a_nil)))) (b_cons (s_set 5 nd (c_call G_ends (hr.mono (by decide)) tk (a_cons (a_var 0) (a_cons d_int a_nil)))) (b_cons (s_if (t_eq hu (p_E (d_ix (p_var 1) p_int)) p_str) (b_cons (s_frz 4 (s_for hp rfl (i_var 4) (pg_name (i := 6) nd rfl (by first | exact Or.inl rfl | exact Or.inr rfl)) (tgs_name 6) (b_one (s_frz 5 (s_for hp rfl (i_var 5) (pg_name (i := 7) nd rfl (by first | exact Or.inl rfl | exact Or.inr rfl)) (tgs_name 7) (b_one (s_if (t_val (c_call G_fits (hr.mono (by decide)) tk (a_cons (a_var 0) (a_cons (d_tup (a_cons (d_var 7) (a_cons (d_var 6) (a_cons (d_var 2) (a_cons (d_var 3) a_nil))))) (a_cons (d_ix (p_var 1) p_int) (a_cons (d_ix (p_var 1) p_int) a_nil)))))) (b_one (s_ret (d_tup (a_cons (d_var 6) (a_cons (d_var 7) a_nil))))) b_nil))))))) (b_one (s_ret d_non))) b_nil) (b_cons (s_frz 5 (s_for hp rfl (i_var 5) (pg_name (i := 7) nd rfl (by first | exact Or.inl rfl | exact Or.inr rfl)) (tgs_name 7) (b_one (s_frz 4 (s_for hp rfl (i_var 4) (pg_name (i := 6) nd rfl (by first | exact Or.inl rfl | exact Or.inr rfl)) (tgs_name 6) (b_one (s_if (t_val (c_call G_fits (hr.mono (by decide)) tk (a_cons (a_var 0) (a_cons (d_tup (a_cons (d_var 7) (a_cons (d_var 6) (a_cons (d_var 2) (a_cons (d_var 3) a_nil))))) (a_cons (d_ix (p_var 1) p_int) (a_cons (d_ix (p_var 1) p_int) a_nil)))))) (b_one (s_ret (d_tup (a_cons (d_var 6) (a_cons (d_var 7) a_nil))))) b_nil))))))) (b_one (s_ret d_non))))))
theorem g_first_spot (F : DefAt K mg "first_spot" s_first_spot) (G_ends : Good P w K mg base G 1 "ends" ["outlines", "side"] m_ends) (G_fits : Good P w K mg base G 3 "fits" ["outlines", "outline", "width", "height"] m_fits) : Good P w K mg base G 4 "first_spot" ["outlines", "shelf", "wide", "high"] m_first_spot := good_def F sc_first_spot (fun _ _ _ _ _ _ us hl => match us, hl with | [_, _, _, _], _ => rfl) (b_first_spot G_ends G_fits)
theorem sc_first_on : FnScope ["outlines", "shelf", "width", "height", "turns", "upright", "across"] ["outlines", "shelf", "width", "height", "turns"] (defScope s_first_on) := ⟨rfl, rfl, rfl, by decide +kernel, rfl, by decide +kernel, by decide +kernel⟩
theorem b_first_on (G_first_spot : Good P w K mg base G 4 "first_spot" ["outlines", "shelf", "wide", "high"] m_first_spot) (G_lesser : Good P w K mg base G 1 "lesser" ["shelf", "one", "other"] m_lesser) : Body P w K mg base G 4 ["outlines", "shelf", "width", "height", "turns", "upright", "across"] "first_on" s_first_on t_first_on := fun f cdv A outer s H E hr => by
  have nd := (sc_first_on).nd
  have hp := hp_ok (P := P) (w := w) (K := K) (mg := mg) (base := base) (N := ["outlines", "shelf", "width", "height", "turns", "upright", "across"]) (qual := "first_on") (scope := defScope s_first_on) (f := f) (cd := cdv) (A := A) (outer := outer) (s := s) (H := H) (E := E)
  have tk := tk_ok (P := P) (w := w) (K := K) (mg := mg) (base := base) (N := ["outlines", "shelf", "width", "height", "turns", "upright", "across"]) (qual := "first_on") (scope := defScope s_first_on) (f := f) (cd := cdv) (A := A) (outer := outer) (s := s) (H := H) (E := E)
  have hu := hr.units
  have hu5 := Nat.lt_of_le_of_lt (show (A.deeper (envOfC "first_on" (defScope s_first_on) s.heap.objs.size f cdv)).units + 65 ≤ (A.deeper (envOfC "first_on" (defScope s_first_on) s.heap.objs.size f cdv)).units + 16 * 4 + 200 by omega) hr.un
  exact (b_cons (s_set 5 nd (c_call G_first_spot (hr.mono (by decide)) tk (a_cons (a_var 0) (a_cons (a_var 1) (a_cons (a_var 2) (a_cons (a_var 3) a_nil)))))) (b_cons (s_set 6 nd d_non) (b_cons (s_if (t_val (d_var 4)) (b_one (s_set 6 nd (c_call G_first_spot (hr.mono (by decide)) tk (a_cons (a_var 0) (a_cons (a_var 1) (a_cons (a_var 3) (a_cons (a_var 2) a_nil))))))) b_nil) (b_cons (s_if (w_pt (w_and (t_isN (p_var 6) p_non) (w_and1 (t_isN (p_var 5) p_non)))) (b_one (s_ret d_non)) b_nil) (b_cons (s_frz 6 (s_frz 5 (s_if (w_pt (w_or (t_isN (p_var 6) p_non) (w_or1 (w_pt (w_and (t_notN (p_var 5) p_non) (w_and1 (t_not (t_val (c_call G_lesser (hr.mono (by decide)) tk (a_cons (a_var 1) (a_cons (a_var 6) (a_cons (a_var 5) a_nil)))))))))))) (b_one (s_ret (d_tup (a_cons (d_ix (p_var 5) p_int) (a_cons (d_ix (p_var 5) p_int) (a_cons d_bl a_nil)))))) b_nil))) (b_one (s_ret (d_tup (a_cons (d_ix (p_var 6) p_int) (a_cons (d_ix (p_var 6) p_int) (a_cons d_bl a_nil)))))))))))
theorem g_first_on (F : DefAt K mg "first_on" s_first_on) (G_first_spot : Good P w K mg base G 4 "first_spot" ["outlines", "shelf", "wide", "high"] m_first_spot) (G_lesser : Good P w K mg base G 1 "lesser" ["shelf", "one", "other"] m_lesser) : Good P w K mg base G 5 "first_on" ["outlines", "shelf", "width", "height", "turns"] m_first_on := good_def F sc_first_on (fun _ _ _ _ _ _ us hl => match us, hl with | [_, _, _, _, _], _ => rfl) (b_first_on G_first_spot G_lesser)
theorem sc_first_place : FnScope ["shelves", "rows", "width", "height", "turns", "number", "found"] ["shelves", "rows", "width", "height", "turns"] (defScope s_first_place) := ⟨rfl, rfl, rfl, by decide +kernel, rfl, by decide +kernel, by decide +kernel⟩
theorem b_first_place (G_first_on : Good P w K mg base G 5 "first_on" ["outlines", "shelf", "width", "height", "turns"] m_first_on) (h_len : mg "len" = none) (h_range : mg "range" = none) : Body P w K mg base G 5 ["shelves", "rows", "width", "height", "turns", "number", "found"] "first_place" s_first_place t_first_place := fun f cdv A outer s H E hr => by
  have nd := (sc_first_place).nd
  have hp := hp_ok (P := P) (w := w) (K := K) (mg := mg) (base := base) (N := ["shelves", "rows", "width", "height", "turns", "number", "found"]) (qual := "first_place") (scope := defScope s_first_place) (f := f) (cd := cdv) (A := A) (outer := outer) (s := s) (H := H) (E := E)
  have tk := tk_ok (P := P) (w := w) (K := K) (mg := mg) (base := base) (N := ["shelves", "rows", "width", "height", "turns", "number", "found"]) (qual := "first_place") (scope := defScope s_first_place) (f := f) (cd := cdv) (A := A) (outer := outer) (s := s) (H := H) (E := E)
  have hu := hr.units
  have hu5 := Nat.lt_of_le_of_lt (show (A.deeper (envOfC "first_place" (defScope s_first_place) s.heap.objs.size f cdv)).units + 65 ≤ (A.deeper (envOfC "first_place" (defScope s_first_place) s.heap.objs.size f cdv)).units + 16 * 5 + 200 by omega) hr.un
  exact (b_cons (s_for hp rfl (i_range1 rfl h_range (p_E (d_len rfl h_len (p_var 0)))) (pg_name (i := 5) nd rfl (by first | exact Or.inl rfl | exact Or.inr rfl)) (tgs_name 5) (b_cons (s_set 6 nd (c_call G_first_on (hr.mono (by decide)) tk (a_cons (d_ix (p_var 1) (p_var 5)) (a_cons (d_ix (p_var 0) (p_var 5)) (a_cons (a_var 2) (a_cons (a_var 3) (a_cons (a_var 4) a_nil))))))) (b_one (s_if (t_notN (p_var 6) p_non) (b_one (s_ret (d_tup (a_cons (d_var 5) (a_cons (d_ix (p_var 6) p_int) (a_cons (d_ix (p_var 6) p_int) (a_cons (d_ix (p_var 6) p_int) a_nil))))))) b_nil)))) (b_one (s_ret d_non)))
theorem g_first_place (F : DefAt K mg "first_place" s_first_place) (G_first_on : Good P w K mg base G 5 "first_on" ["outlines", "shelf", "width", "height", "turns"] m_first_on) (h_len : mg "len" = none) (h_range : mg "range" = none) : Good P w K mg base G 6 "first_place" ["shelves", "rows", "width", "height", "turns"] m_first_place := good_def F sc_first_place (fun _ _ _ _ _ _ us hl => match us, hl with | [_, _, _, _, _], _ => rfl) (b_first_place G_first_on h_len h_range)
theorem sc__law_cell_at : FnScope ["_law_script", "_law_k"] ["_law_script", "_law_k"] (defScope s__law_cell_at) := ⟨rfl, rfl, rfl, by decide +kernel, rfl, by decide +kernel, by decide +kernel⟩
theorem b__law_cell_at (h_len : mg "len" = none) : Body P w K mg base G 0 ["_law_script", "_law_k"] "_law_cell_at" s__law_cell_at t__law_cell_at := fun f cdv A outer s H E hr => by
  have nd := (sc__law_cell_at).nd
  have hp := hp_ok (P := P) (w := w) (K := K) (mg := mg) (base := base) (N := ["_law_script", "_law_k"]) (qual := "_law_cell_at") (scope := defScope s__law_cell_at) (f := f) (cd := cdv) (A := A) (outer := outer) (s := s) (H := H) (E := E)
  have tk := tk_ok (P := P) (w := w) (K := K) (mg := mg) (base := base) (N := ["_law_script", "_law_k"]) (qual := "_law_cell_at") (scope := defScope s__law_cell_at) (f := f) (cd := cdv) (A := A) (outer := outer) (s := s) (H := H) (E := E)
  have hu := hr.units
  have hu5 := Nat.lt_of_le_of_lt (show (A.deeper (envOfC "_law_cell_at" (defScope s__law_cell_at) s.heap.objs.size f cdv)).units + 65 ≤ (A.deeper (envOfC "_law_cell_at" (defScope s__law_cell_at) s.heap.objs.size f cdv)).units + 16 * 0 + 200 by omega) hr.un
  exact (b_cons (s_if (t_lt (p_var 1) (p_E (d_len rfl h_len (p_var 0)))) (b_one (s_ret (d_ix (p_var 0) (p_var 1)))) b_nil) (b_one (s_ret d_int)))
theorem g__law_cell_at (F : DefAt K mg "_law_cell_at" s__law_cell_at) (h_len : mg "len" = none) : Good P w K mg base G 1 "_law_cell_at" ["_law_script", "_law_k"] m__law_cell_at := good_def F sc__law_cell_at (fun _ _ _ _ _ _ us hl => match us, hl with | [_, _], _ => rfl) (b__law_cell_at h_len)
theorem sc__law_whole : FnScope ["_law_found"] ["_law_found"] (defScope s__law_whole) := ⟨rfl, rfl, rfl, by decide +kernel, rfl, by decide +kernel, by decide +kernel⟩
theorem b__law_whole (h_bool : mg "bool" = none) (h_int : mg "int" = none) (h_isinstance : mg "isinstance" = none) : Body P w K mg base G 0 ["_law_found"] "_law_whole" s__law_whole t__law_whole := fun f cdv A outer s H E hr => by
  have nd := (sc__law_whole).nd
  have hp := hp_ok (P := P) (w := w) (K := K) (mg := mg) (base := base) (N := ["_law_found"]) (qual := "_law_whole") (scope := defScope s__law_whole) (f := f) (cd := cdv) (A := A) (outer := outer) (s := s) (H := H) (E := E)
  have tk := tk_ok (P := P) (w := w) (K := K) (mg := mg) (base := base) (N := ["_law_found"]) (qual := "_law_whole") (scope := defScope s__law_whole) (f := f) (cd := cdv) (A := A) (outer := outer) (s := s) (H := H) (E := E)
  have hu := hr.units
  have hu5 := Nat.lt_of_le_of_lt (show (A.deeper (envOfC "_law_whole" (defScope s__law_whole) s.heap.objs.size f cdv)).units + 65 ≤ (A.deeper (envOfC "_law_whole" (defScope s__law_whole) s.heap.objs.size f cdv)).units + 16 * 0 + 200 by omega) hr.un
  exact (b_one (s_ret (d_and (d_isi .int rfl h_isinstance (p_var 0) rfl h_int (by decide +kernel)) (d_one (d_not (d_isi .bool rfl h_isinstance (p_var 0) rfl h_bool (by decide +kernel)))))))
theorem g__law_whole (F : DefAt K mg "_law_whole" s__law_whole) (h_bool : mg "bool" = none) (h_int : mg "int" = none) (h_isinstance : mg "isinstance" = none) : Good P w K mg base G 1 "_law_whole" ["_law_found"] m__law_whole := good_def F sc__law_whole (fun _ _ _ _ _ _ us hl => match us, hl with | [_], _ => rfl) (b__law_whole h_bool h_int h_isinstance)
theorem sc__law_apart : FnScope ["_law_one", "_law_other", "_law_at"] ["_law_one", "_law_other", "_law_at"] (defScope s__law_apart) := ⟨rfl, rfl, rfl, by decide +kernel, rfl, by decide +kernel, by decide +kernel⟩
theorem b__law_apart : Body P w K mg base G 0 ["_law_one", "_law_other", "_law_at"] "_law_apart" s__law_apart t__law_apart := fun f cdv A outer s H E hr => by
  have nd := (sc__law_apart).nd
  have hp := hp_ok (P := P) (w := w) (K := K) (mg := mg) (base := base) (N := ["_law_one", "_law_other", "_law_at"]) (qual := "_law_apart") (scope := defScope s__law_apart) (f := f) (cd := cdv) (A := A) (outer := outer) (s := s) (H := H) (E := E)
  have tk := tk_ok (P := P) (w := w) (K := K) (mg := mg) (base := base) (N := ["_law_one", "_law_other", "_law_at"]) (qual := "_law_apart") (scope := defScope s__law_apart) (f := f) (cd := cdv) (A := A) (outer := outer) (s := s) (H := H) (E := E)
  have hu := hr.units
  have hu5 := Nat.lt_of_le_of_lt (show (A.deeper (envOfC "_law_apart" (defScope s__law_apart) s.heap.objs.size f cdv)).units + 65 ≤ (A.deeper (envOfC "_law_apart" (defScope s__law_apart) s.heap.objs.size f cdv)).units + 16 * 0 + 200 by omega) hr.un
  exact (b_one (s_ret (d_or (d_le (p_E (d_add (p_E (d_ix (p_var 0) (p_var 2))) (p_E (d_ix (p_var 0) (p_E (d_add (p_var 2) p_int)))))) (p_E (d_ix (p_var 1) (p_var 2)))) (d_one (d_le (p_E (d_add (p_E (d_ix (p_var 1) (p_var 2))) (p_E (d_ix (p_var 1) (p_E (d_add (p_var 2) p_int)))))) (p_E (d_ix (p_var 0) (p_var 2))))))))
theorem g__law_apart (F : DefAt K mg "_law_apart" s__law_apart) : Good P w K mg base G 1 "_law_apart" ["_law_one", "_law_other", "_law_at"] m__law_apart := good_def F sc__law_apart (fun _ _ _ _ _ _ us hl => match us, hl with | [_, _, _], _ => rfl) (b__law_apart )
theorem sc__law_good : FnScope ["_law_outlines", "_law_outline", "_law_width", "_law_height", "_law_other"] ["_law_outlines", "_law_outline", "_law_width", "_law_height"] (defScope s__law_good) := ⟨rfl, rfl, rfl, by decide +kernel, rfl, by decide +kernel, by decide +kernel⟩
theorem b__law_good (G__law_apart : Good P w K mg base G 1 "_law_apart" ["_law_one", "_law_other", "_law_at"] m__law_apart) : Body P w K mg base G 1 ["_law_outlines", "_law_outline", "_law_width", "_law_height", "_law_other"] "_law_good" s__law_good t__law_good := fun f cdv A outer s H E hr => by
  have nd := (sc__law_good).nd
  have hp := hp_ok (P := P) (w := w) (K := K) (mg := mg) (base := base) (N := ["_law_outlines", "_law_outline", "_law_width", "_law_height", "_law_other"]) (qual := "_law_good") (scope := defScope s__law_good) (f := f) (cd := cdv) (A := A) (outer := outer) (s := s) (H := H) (E := E)
  have tk := tk_ok (P := P) (w := w) (K := K) (mg := mg) (base := base) (N := ["_law_outlines", "_law_outline", "_law_width", "_law_height", "_law_other"]) (qual := "_law_good") (scope := defScope s__law_good) (f := f) (cd := cdv) (A := A) (outer := outer) (s := s) (H := H) (E := E)
  have hu := hr.units
  have hu5 := Nat.lt_of_le_of_lt (show (A.deeper (envOfC "_law_good" (defScope s__law_good) s.heap.objs.size f cdv)).units + 65 ≤ (A.deeper (envOfC "_law_good" (defScope s__law_good) s.heap.objs.size f cdv)).units + 16 * 1 + 200 by omega) hr.un
  exact (b_cons (s_if (w_pt (w_or (t_lt (p_E (d_ix (p_var 1) p_int)) p_int) (w_or (t_lt (p_E (d_ix (p_var 1) p_int)) p_int) (w_or (t_gt (p_E (d_add (p_E (d_ix (p_var 1) p_int)) (p_E (d_ix (p_var 1) p_int)))) (p_var 2)) (w_or1 (t_gt (p_E (d_add (p_E (d_ix (p_var 1) p_int)) (p_E (d_ix (p_var 1) p_int)))) (p_var 3))))))) (b_one (s_ret d_bl)) b_nil) (b_cons (s_for hp rfl (i_var 0) (pg_name (i := 4) nd rfl (by first | exact Or.inl rfl | exact Or.inr rfl)) (tgs_name 4) (b_one (s_if (w_pt (w_and (t_not (t_val (c_call G__law_apart (hr.mono (by decide)) tk (a_cons (a_var 1) (a_cons (a_var 4) (a_cons d_int a_nil)))))) (w_and1 (t_not (t_val (c_call G__law_apart (hr.mono (by decide)) tk (a_cons (a_var 1) (a_cons (a_var 4) (a_cons d_int a_nil))))))))) (b_one (s_ret d_bl)) b_nil))) (b_one (s_ret d_bl))))
theorem g__law_good (F : DefAt K mg "_law_good" s__law_good) (G__law_apart : Good P w K mg base G 1 "_law_apart" ["_law_one", "_law_other", "_law_at"] m__law_apart) : Good P w K mg base G 2 "_law_good" ["_law_outlines", "_law_outline", "_law_width", "_law_height"] m__law_good := good_def F sc__law_good (fun _ _ _ _ _ _ us hl => match us, hl with | [_, _, _, _], _ => rfl) (b__law_good G__law_apart)
theorem sc__law_spots : FnScope ["_law_shelf", "_law_k"] ["_law_shelf"] (defScope s__law_spots) := ⟨rfl, rfl, rfl, by decide +kernel, rfl, by decide +kernel, by decide +kernel⟩
theorem b__law_spots (h_range : mg "range" = none) : Body P w K mg base G 0 ["_law_shelf", "_law_k"] "_law_spots" s__law_spots t__law_spots := fun f cdv A outer s H E hr => by
  have nd := (sc__law_spots).nd
  have hp := hp_ok (P := P) (w := w) (K := K) (mg := mg) (base := base) (N := ["_law_shelf", "_law_k"]) (qual := "_law_spots") (scope := defScope s__law_spots) (f := f) (cd := cdv) (A := A) (outer := outer) (s := s) (H := H) (E := E)
  have tk := tk_ok (P := P) (w := w) (K := K) (mg := mg) (base := base) (N := ["_law_shelf", "_law_k"]) (qual := "_law_spots") (scope := defScope s__law_spots) (f := f) (cd := cdv) (A := A) (outer := outer) (s := s) (H := H) (E := E)
  have hu := hr.units
  have hu5 := Nat.lt_of_le_of_lt (show (A.deeper (envOfC "_law_spots" (defScope s__law_spots) s.heap.objs.size f cdv)).units + 65 ≤ (A.deeper (envOfC "_law_spots" (defScope s__law_spots) s.heap.objs.size f cdv)).units + 16 * 0 + 200 by omega) hr.un
  exact (b_cons (s_if (t_eq hu (p_E (d_ix (p_var 0) p_int)) p_str) (b_one (s_ret (d_lc (k := 1) rfl nd (i_range1 rfl h_range (p_E (d_mul (p_E (d_ix (p_var 0) p_int)) (p_E (d_ix (p_var 0) p_int))))) (by refine (show blkC ["_law_shelf", "_law_k"] (defScope s__law_spots) _ _ = true from ?_); decide +kernel) (fun _ _ _ _ _ => pg_name (i := 1) nd rfl (Or.inl rfl)) (fun _ _ _ _ _ => by exact ts_nil) (fun _ _ _ _ _ => by exact (d_tup (a_cons (d_div (p_var 1) (p_E (d_ix (p_var 0) p_int))) (a_cons (d_mod (p_var 1) (p_E (d_ix (p_var 0) p_int))) a_nil))))))) b_nil) (b_one (s_ret (d_lc (k := 1) rfl nd (i_range1 rfl h_range (p_E (d_mul (p_E (d_ix (p_var 0) p_int)) (p_E (d_ix (p_var 0) p_int))))) (by refine (show blkC ["_law_shelf", "_law_k"] (defScope s__law_spots) _ _ = true from ?_); decide +kernel) (fun _ _ _ _ _ => pg_name (i := 1) nd rfl (Or.inl rfl)) (fun _ _ _ _ _ => by exact ts_nil) (fun _ _ _ _ _ => by exact (d_tup (a_cons (d_mod (p_var 1) (p_E (d_ix (p_var 0) p_int))) (a_cons (d_div (p_var 1) (p_E (d_ix (p_var 0) p_int))) a_nil))))))))
theorem g__law_spots (F : DefAt K mg "_law_spots" s__law_spots) (h_range : mg "range" = none) : Good P w K mg base G 1 "_law_spots" ["_law_shelf"] m__law_spots := good_def F sc__law_spots (fun _ _ _ _ _ _ us hl => match us, hl with | [_], _ => rfl) (b__law_spots h_range)
theorem sc__law_shelves : FnScope ["_law_script", "_law_shelves_here", "_law_k", "_law_cell"] ["_law_script"] (defScope s__law_shelves) := ⟨rfl, rfl, rfl, by decide +kernel, rfl, by decide +kernel, by decide +kernel⟩
theorem b__law_shelves (G__law_cell_at : Good P w K mg base G 1 "_law_cell_at" ["_law_script", "_law_k"] m__law_cell_at) (h_range : mg "range" = none) : Body P w K mg base G 1 ["_law_script", "_law_shelves_here", "_law_k", "_law_cell"] "_law_shelves" s__law_shelves t__law_shelves := fun f cdv A outer s H E hr => by
  have nd := (sc__law_shelves).nd
  have hp := hp_ok (P := P) (w := w) (K := K) (mg := mg) (base := base) (N := ["_law_script", "_law_shelves_here", "_law_k", "_law_cell"]) (qual := "_law_shelves") (scope := defScope s__law_shelves) (f := f) (cd := cdv) (A := A) (outer := outer) (s := s) (H := H) (E := E)
  have tk := tk_ok (P := P) (w := w) (K := K) (mg := mg) (base := base) (N := ["_law_script", "_law_shelves_here", "_law_k", "_law_cell"]) (qual := "_law_shelves") (scope := defScope s__law_shelves) (f := f) (cd := cdv) (A := A) (outer := outer) (s := s) (H := H) (E := E)
  have hu := hr.units
  have hu5 := Nat.lt_of_le_of_lt (show (A.deeper (envOfC "_law_shelves" (defScope s__law_shelves) s.heap.objs.size f cdv)).units + 65 ≤ (A.deeper (envOfC "_law_shelves" (defScope s__law_shelves) s.heap.objs.size f cdv)).units + 16 * 1 + 200 by omega) hr.un
  exact (b_cons (s_setlc (i := 1) (k := 2) rfl nd rfl rfl (sw_true rfl rfl rfl (by decide +kernel)) (i_range1 rfl h_range (p_E (d_mod (p_E (c_call G__law_cell_at (hr.mono (by decide)) tk (a_cons (a_var 0) (a_cons d_int a_nil)))) p_int))) (by refine (show blkC ["_law_script", "_law_shelves_here", "_law_k", "_law_cell"] (defScope s__law_shelves) _ _ = true from ?_); decide +kernel) (fun _ _ _ _ _ => pg_name (i := 2) nd rfl (Or.inl rfl)) (fun _ _ _ _ _ => by exact ts_nil) (fun _ _ _ _ _ => by exact (d_tup (a_cons d_int (a_cons d_int (a_cons (d_ix (p_E (d_lst (a_cons d_str (a_cons d_str a_nil)))) (p_E (d_mod (p_var 2) p_int))) a_nil)))))) (b_cons (s_for hp rfl (i_range1 rfl h_range (p_E (d_add p_int (p_E (d_mod (p_E (c_call G__law_cell_at (hr.mono (by decide)) tk (a_cons (a_var 0) (a_cons d_int a_nil)))) p_int))))) (pg_name (i := 2) nd rfl (by first | exact Or.inl rfl | exact Or.inr rfl)) (tgs_name 2) (b_cons (s_set 3 nd (d_mod (p_E (d_add (p_E (d_mul (p_E (c_call G__law_cell_at (hr.mono (by decide)) tk (a_cons (a_var 0) (a_cons (d_add p_int (p_var 2)) a_nil)))) p_int)) p_int)) p_int)) (b_one (s_app 1 (d_tup (a_cons (d_add p_int (p_E (d_mod (p_var 3) p_int))) (a_cons (d_add p_int (p_E (d_mod (p_E (d_div (p_var 3) p_int)) p_int))) (a_cons (d_ix (p_E (d_lst (a_cons d_str (a_cons d_str a_nil)))) (p_E (d_mod (p_E (d_div (p_var 3) p_int)) p_int))) a_nil)))) (hm := pe_bm PySem.F.plainAttrs_list PySem.F.slot_list_append PySem.F.type_list_append mt_append (pe_var (i := 1) rfl (by first | exact Or.inl rfl | exact Or.inr (Or.inl rfl))) (pa_cons (d_tup (a_cons (d_add p_int (p_E (d_mod (p_var 3) p_int))) (a_cons (d_add p_int (p_E (d_mod (p_E (d_div (p_var 3) p_int)) p_int))) (a_cons (d_ix (p_E (d_lst (a_cons d_str (a_cons d_str a_nil)))) (p_E (d_mod (p_E (d_div (p_var 3) p_int)) p_int))) a_nil)))) pa_nil)))))) (b_one (s_retv 1))))
theorem g__law_shelves (F : DefAt K mg "_law_shelves" s__law_shelves) (G__law_cell_at : Good P w K mg base G 1 "_law_cell_at" ["_law_script", "_law_k"] m__law_cell_at) (h_range : mg "range" = none) : Good P w K mg base G 2 "_law_shelves" ["_law_script"] m__law_shelves := good_def F sc__law_shelves (fun _ _ _ _ _ _ us hl => match us, hl with | [_], _ => rfl) (b__law_shelves G__law_cell_at h_range)
theorem sc__law_rows : FnScope ["_law_script", "_law_shelves_here", "_law_bare", "_law_rows_here", "_law_k", "_law_row", "_law_drawn", "_law_many", "_law_j"] ["_law_script", "_law_shelves_here", "_law_bare"] (defScope s__law_rows) := ⟨rfl, rfl, rfl, by decide +kernel, rfl, by decide +kernel, by decide +kernel⟩
theorem b__law_rows (G__law_cell_at : Good P w K mg base G 1 "_law_cell_at" ["_law_script", "_law_k"] m__law_cell_at) (h_len : mg "len" = none) (h_range : mg "range" = none) : Body P w K mg base G 1 ["_law_script", "_law_shelves_here", "_law_bare", "_law_rows_here", "_law_k", "_law_row", "_law_drawn", "_law_many", "_law_j"] "_law_rows" s__law_rows t__law_rows := fun f cdv A outer s H E hr => by
  have nd := (sc__law_rows).nd
  have hp := hp_ok (P := P) (w := w) (K := K) (mg := mg) (base := base) (N := ["_law_script", "_law_shelves_here", "_law_bare", "_law_rows_here", "_law_k", "_law_row", "_law_drawn", "_law_many", "_law_j"]) (qual := "_law_rows") (scope := defScope s__law_rows) (f := f) (cd := cdv) (A := A) (outer := outer) (s := s) (H := H) (E := E)
  have tk := tk_ok (P := P) (w := w) (K := K) (mg := mg) (base := base) (N := ["_law_script", "_law_shelves_here", "_law_bare", "_law_rows_here", "_law_k", "_law_row", "_law_drawn", "_law_many", "_law_j"]) (qual := "_law_rows") (scope := defScope s__law_rows) (f := f) (cd := cdv) (A := A) (outer := outer) (s := s) (H := H) (E := E)
  have hu := hr.units
  have hu5 := Nat.lt_of_le_of_lt (show (A.deeper (envOfC "_law_rows" (defScope s__law_rows) s.heap.objs.size f cdv)).units + 65 ≤ (A.deeper (envOfC "_law_rows" (defScope s__law_rows) s.heap.objs.size f cdv)).units + 16 * 1 + 200 by omega) hr.un
  exact (b_cons (s_set 3 nd (d_lst a_nil)) (b_cons (s_for hp rfl (i_range1 rfl h_range (p_E (d_len rfl h_len (p_var 1)))) (pg_name (i := 4) nd rfl (by first | exact Or.inl rfl | exact Or.inr rfl)) (tgs_name 4) (b_cons (s_set 5 nd (d_lst a_nil)) (b_cons (s_if (t_ge (p_var 4) (p_var 2)) (b_cons (s_set 6 nd (d_mod (p_E (c_call G__law_cell_at (hr.mono (by decide)) tk (a_cons (a_var 0) (a_cons (d_add p_int (p_var 4)) a_nil)))) p_int)) (b_cons (s_set 7 nd (d_mod (p_E (c_call G__law_cell_at (hr.mono (by decide)) tk (a_cons (a_var 0) (a_cons (d_add p_int (p_var 4)) a_nil)))) p_int)) (b_cons (s_if (t_eq hu (p_E (d_mod (p_E (d_div (p_E (c_call G__law_cell_at (hr.mono (by decide)) tk (a_cons (a_var 0) (a_cons (d_add p_int (p_var 4)) a_nil)))) p_int)) p_int)) p_int) (b_one (s_set 7 nd (d_add p_int (p_E (d_mod (p_E (d_div (p_E (c_call G__law_cell_at (hr.mono (by decide)) tk (a_cons (a_var 0) (a_cons (d_add p_int (p_var 4)) a_nil)))) p_int)) p_int))))) b_nil) (b_one (s_for hp rfl (i_range1 rfl h_range (p_var 7)) (pg_name (i := 8) nd rfl (by first | exact Or.inl rfl | exact Or.inr rfl)) (tgs_name 8) (b_cons (s_set 6 nd (d_mod (p_E (d_add (p_E (d_mul (p_var 6) p_int)) (p_E (c_call G__law_cell_at (hr.mono (by decide)) tk (a_cons (a_var 0) (a_cons (d_add p_int (p_var 8)) a_nil)))))) p_int)) (b_one (s_app 5 (d_tup (a_cons (d_sub (p_E (d_mod (p_var 6) p_int)) p_int) (a_cons (d_sub (p_E (d_mod (p_E (d_div (p_var 6) p_int)) p_int)) p_int) (a_cons (d_add p_int (p_E (d_mod (p_E (d_div (p_var 6) p_int)) p_int))) (a_cons (d_add p_int (p_E (d_mod (p_E (d_div (p_var 6) p_int)) p_int))) a_nil))))) (hm := pe_bm PySem.F.plainAttrs_list PySem.F.slot_list_append PySem.F.type_list_append mt_append (pe_var (i := 5) rfl (by first | exact Or.inl rfl | exact Or.inr (Or.inl rfl))) (pa_cons (d_tup (a_cons (d_sub (p_E (d_mod (p_var 6) p_int)) p_int) (a_cons (d_sub (p_E (d_mod (p_E (d_div (p_var 6) p_int)) p_int)) p_int) (a_cons (d_add p_int (p_E (d_mod (p_E (d_div (p_var 6) p_int)) p_int))) (a_cons (d_add p_int (p_E (d_mod (p_E (d_div (p_var 6) p_int)) p_int))) a_nil))))) pa_nil)))))))))) b_nil) (b_one (s_frz 5 (s_app 3 (d_var 5) (hm := pe_bm PySem.F.plainAttrs_list PySem.F.slot_list_append PySem.F.type_list_append mt_append (pe_var (i := 3) rfl (by first | exact Or.inl rfl | exact Or.inr (Or.inl rfl))) (pa_cons (d_var 5) pa_nil)))))))) (b_one (s_retv 3))))
theorem g__law_rows (F : DefAt K mg "_law_rows" s__law_rows) (G__law_cell_at : Good P w K mg base G 1 "_law_cell_at" ["_law_script", "_law_k"] m__law_cell_at) (h_len : mg "len" = none) (h_range : mg "range" = none) : Good P w K mg base G 2 "_law_rows" ["_law_script", "_law_shelves_here", "_law_bare"] m__law_rows := good_def F sc__law_rows (fun _ _ _ _ _ _ us hl => match us, hl with | [_, _, _], _ => rfl) (b__law_rows G__law_cell_at h_len h_range)
theorem sc__law_due : FnScope ["_law_shelves_here", "_law_rows_here", "_law_width", "_law_height", "_law_turns", "_law_number", "_law_shelf", "_law_row", "_law_spot", "_law_upright", "_law_across"] ["_law_shelves_here", "_law_rows_here", "_law_width", "_law_height", "_law_turns"] (defScope s__law_due) := ⟨rfl, rfl, rfl, by decide +kernel, rfl, by decide +kernel, by decide +kernel⟩
theorem b__law_due (G__law_good : Good P w K mg base G 2 "_law_good" ["_law_outlines", "_law_outline", "_law_width", "_law_height"] m__law_good) (G__law_spots : Good P w K mg base G 1 "_law_spots" ["_law_shelf"] m__law_spots) (h_len : mg "len" = none) (h_range : mg "range" = none) : Body P w K mg base G 2 ["_law_shelves_here", "_law_rows_here", "_law_width", "_law_height", "_law_turns", "_law_number", "_law_shelf", "_law_row", "_law_spot", "_law_upright", "_law_across"] "_law_due" s__law_due t__law_due := fun f cdv A outer s H E hr => by
  have nd := (sc__law_due).nd
  have hp := hp_ok (P := P) (w := w) (K := K) (mg := mg) (base := base) (N := ["_law_shelves_here", "_law_rows_here", "_law_width", "_law_height", "_law_turns", "_law_number", "_law_shelf", "_law_row", "_law_spot", "_law_upright", "_law_across"]) (qual := "_law_due") (scope := defScope s__law_due) (f := f) (cd := cdv) (A := A) (outer := outer) (s := s) (H := H) (E := E)
  have tk := tk_ok (P := P) (w := w) (K := K) (mg := mg) (base := base) (N := ["_law_shelves_here", "_law_rows_here", "_law_width", "_law_height", "_law_turns", "_law_number", "_law_shelf", "_law_row", "_law_spot", "_law_upright", "_law_across"]) (qual := "_law_due") (scope := defScope s__law_due) (f := f) (cd := cdv) (A := A) (outer := outer) (s := s) (H := H) (E := E)
  have hu := hr.units
  have hu5 := Nat.lt_of_le_of_lt (show (A.deeper (envOfC "_law_due" (defScope s__law_due) s.heap.objs.size f cdv)).units + 65 ≤ (A.deeper (envOfC "_law_due" (defScope s__law_due) s.heap.objs.size f cdv)).units + 16 * 2 + 200 by omega) hr.un
  exact (b_cons (s_for hp rfl (i_range1 rfl h_range (p_E (d_len rfl h_len (p_var 0)))) (pg_name (i := 5) nd rfl (by first | exact Or.inl rfl | exact Or.inr rfl)) (tgs_name 5) (b_cons (s_set 6 nd (d_ix (p_var 0) (p_var 5))) (b_cons (s_set 7 nd (d_ix (p_var 1) (p_var 5))) (b_one (s_for hp rfl (i_list (c_call G__law_spots (hr.mono (by decide)) tk (a_cons (a_var 6) a_nil))) (pg_name (i := 8) nd rfl (by first | exact Or.inl rfl | exact Or.inr rfl)) (tgs_name 8) (b_cons (s_set 9 nd (d_tup (a_cons (d_ix (p_var 8) p_int) (a_cons (d_ix (p_var 8) p_int) (a_cons (d_var 2) (a_cons (d_var 3) a_nil)))))) (b_cons (s_if (t_val (c_call G__law_good (hr.mono (by decide)) tk (a_cons (a_var 7) (a_cons (a_var 9) (a_cons (d_ix (p_var 6) p_int) (a_cons (d_ix (p_var 6) p_int) a_nil)))))) (b_one (s_ret (d_tup (a_cons (d_var 5) (a_cons (d_ix (p_var 8) p_int) (a_cons (d_ix (p_var 8) p_int) (a_cons d_bl a_nil))))))) b_nil) (b_cons (s_set 10 nd (d_tup (a_cons (d_ix (p_var 8) p_int) (a_cons (d_ix (p_var 8) p_int) (a_cons (d_var 3) (a_cons (d_var 2) a_nil)))))) (b_one (s_if (w_pt (w_and (t_val (d_var 4)) (w_and1 (t_val (c_call G__law_good (hr.mono (by decide)) tk (a_cons (a_var 7) (a_cons (a_var 10) (a_cons (d_ix (p_var 6) p_int) (a_cons (d_ix (p_var 6) p_int) a_nil))))))))) (b_one (s_ret (d_tup (a_cons (d_var 5) (a_cons (d_ix (p_var 8) p_int) (a_cons (d_ix (p_var 8) p_int) (a_cons d_bl a_nil))))))) b_nil)))))))))) (b_one (s_ret d_non)))
theorem g__law_due (F : DefAt K mg "_law_due" s__law_due) (G__law_good : Good P w K mg base G 2 "_law_good" ["_law_outlines", "_law_outline", "_law_width", "_law_height"] m__law_good) (G__law_spots : Good P w K mg base G 1 "_law_spots" ["_law_shelf"] m__law_spots) (h_len : mg "len" = none) (h_range : mg "range" = none) : Good P w K mg base G 3 "_law_due" ["_law_shelves_here", "_law_rows_here", "_law_width", "_law_height", "_law_turns"] m__law_due := good_def F sc__law_due (fun _ _ _ _ _ _ us hl => match us, hl with | [_, _, _, _, _], _ => rfl) (b__law_due G__law_good G__law_spots h_len h_range)
theorem sc__law_alike : FnScope ["_law_found", "_law_due_here", "_law_times", "_law_k"] ["_law_found", "_law_due_here", "_law_times"] (defScope s__law_alike) := ⟨rfl, rfl, rfl, by decide +kernel, rfl, by decide +kernel, by decide +kernel⟩
theorem b__law_alike (G__law_whole : Good P w K mg base G 1 "_law_whole" ["_law_found"] m__law_whole) (h_bool : mg "bool" = none) (h_isinstance : mg "isinstance" = none) (h_len : mg "len" = none) (h_range : mg "range" = none) (h_tuple : mg "tuple" = none) : Body P w K mg base G 1 ["_law_found", "_law_due_here", "_law_times", "_law_k"] "_law_alike" s__law_alike t__law_alike := fun f cdv A outer s H E hr => by
  have nd := (sc__law_alike).nd
  have hp := hp_ok (P := P) (w := w) (K := K) (mg := mg) (base := base) (N := ["_law_found", "_law_due_here", "_law_times", "_law_k"]) (qual := "_law_alike") (scope := defScope s__law_alike) (f := f) (cd := cdv) (A := A) (outer := outer) (s := s) (H := H) (E := E)
  have tk := tk_ok (P := P) (w := w) (K := K) (mg := mg) (base := base) (N := ["_law_found", "_law_due_here", "_law_times", "_law_k"]) (qual := "_law_alike") (scope := defScope s__law_alike) (f := f) (cd := cdv) (A := A) (outer := outer) (s := s) (H := H) (E := E)
  have hu := hr.units
  have hu5 := Nat.lt_of_le_of_lt (show (A.deeper (envOfC "_law_alike" (defScope s__law_alike) s.heap.objs.size f cdv)).units + 65 ≤ (A.deeper (envOfC "_law_alike" (defScope s__law_alike) s.heap.objs.size f cdv)).units + 16 * 1 + 200 by omega) hr.un
  exact (b_cons (s_if (t_isN (p_var 1) p_non) (b_one (s_ret (d_isN (p_var 0) p_non))) b_nil) (b_cons (s_if (w_pt (w_or (t_not (t_val (d_isi .tuple rfl h_isinstance (p_var 0) rfl h_tuple (by decide +kernel)))) (w_or1 (t_ne hu (p_E (d_len rfl h_len (p_var 0))) p_int)))) (b_one (s_ret d_bl)) b_nil) (b_cons (s_if (t_not (t_val (d_isi .bool rfl h_isinstance (p_E (d_ix (p_var 0) p_int)) rfl h_bool (by decide +kernel)))) (b_one (s_ret d_bl)) b_nil) (b_cons (s_for hp rfl (i_range1 rfl h_range p_int) (pg_name (i := 3) nd rfl (by first | exact Or.inl rfl | exact Or.inr rfl)) (tgs_name 3) (b_one (s_if (t_not (t_val (c_call G__law_whole (hr.mono (by decide)) tk (a_cons (d_ix (p_var 0) (p_var 3)) a_nil)))) (b_one (s_ret d_bl)) b_nil))) (b_one (s_ret (d_eq hu (p_var 0) (p_E (d_tup (a_cons (d_ix (p_var 1) p_int) (a_cons (d_mul (p_E (d_ix (p_var 1) p_int)) (p_var 2)) (a_cons (d_mul (p_E (d_ix (p_var 1) p_int)) (p_var 2)) (a_cons (d_ix (p_var 1) p_int) a_nil)))))))))))))
theorem g__law_alike (F : DefAt K mg "_law_alike" s__law_alike) (G__law_whole : Good P w K mg base G 1 "_law_whole" ["_law_found"] m__law_whole) (h_bool : mg "bool" = none) (h_isinstance : mg "isinstance" = none) (h_len : mg "len" = none) (h_range : mg "range" = none) (h_tuple : mg "tuple" = none) : Good P w K mg base G 2 "_law_alike" ["_law_found", "_law_due_here", "_law_times"] m__law_alike := good_def F sc__law_alike (fun _ _ _ _ _ _ us hl => match us, hl with | [_, _, _], _ => rfl) (b__law_alike G__law_whole h_bool h_isinstance h_len h_range h_tuple)
theorem sc_law : FnScope ["_law_script", "_law_times", "_law_shelves_here", "_law_rows_here", "_law_cell", "_law_width", "_law_height", "_law_turns", "_law_due_here", "_law_great", "_law_shelf", "_law_told", "_law_row", "_law_one", "_law_handed", "_law_kept", "_law_found"] ["_law_script"] (defScope s_law) := ⟨rfl, rfl, rfl, by decide +kernel, rfl, by decide +kernel, by decide +kernel⟩
theorem b_law (G__law_alike : Good P w K mg base G 2 "_law_alike" ["_law_found", "_law_due_here", "_law_times"] m__law_alike) (G__law_cell_at : Good P w K mg base G 1 "_law_cell_at" ["_law_script", "_law_k"] m__law_cell_at) (G__law_due : Good P w K mg base G 3 "_law_due" ["_law_shelves_here", "_law_rows_here", "_law_width", "_law_height", "_law_turns"] m__law_due) (G__law_rows : Good P w K mg base G 2 "_law_rows" ["_law_script", "_law_shelves_here", "_law_bare"] m__law_rows) (G__law_shelves : Good P w K mg base G 2 "_law_shelves" ["_law_script"] m__law_shelves) (G_first_place : Good P w K mg base G 6 "first_place" ["shelves", "rows", "width", "height", "turns"] m_first_place) (h_list : mg "list" = none) : Body P w K mg base G 6 ["_law_script", "_law_times", "_law_shelves_here", "_law_rows_here", "_law_cell", "_law_width", "_law_height", "_law_turns", "_law_due_here", "_law_great", "_law_shelf", "_law_told", "_law_row", "_law_one", "_law_handed", "_law_kept", "_law_found"] "law" s_law t_law := fun f cdv A outer s H E hr => by
  have nd := (sc_law).nd
  have hp := hp_ok (P := P) (w := w) (K := K) (mg := mg) (base := base) (N := ["_law_script", "_law_times", "_law_shelves_here", "_law_rows_here", "_law_cell", "_law_width", "_law_height", "_law_turns", "_law_due_here", "_law_great", "_law_shelf", "_law_told", "_law_row", "_law_one", "_law_handed", "_law_kept", "_law_found"]) (qual := "law") (scope := defScope s_law) (f := f) (cd := cdv) (A := A) (outer := outer) (s := s) (H := H) (E := E)
  have tk := tk_ok (P := P) (w := w) (K := K) (mg := mg) (base := base) (N := ["_law_script", "_law_times", "_law_shelves_here", "_law_rows_here", "_law_cell", "_law_width", "_law_height", "_law_turns", "_law_due_here", "_law_great", "_law_shelf", "_law_told", "_law_row", "_law_one", "_law_handed", "_law_kept", "_law_found"]) (qual := "law") (scope := defScope s_law) (f := f) (cd := cdv) (A := A) (outer := outer) (s := s) (H := H) (E := E)
  have hu := hr.units
  have hu5 := Nat.lt_of_le_of_lt (show (A.deeper (envOfC "law" (defScope s_law) s.heap.objs.size f cdv)).units + 65 ≤ (A.deeper (envOfC "law" (defScope s_law) s.heap.objs.size f cdv)).units + 16 * 6 + 200 by omega) hr.un
  exact (b_cons (s_set 1 nd (d_add p_int (p_E (d_mod (p_E (c_call G__law_cell_at (hr.mono (by decide)) tk (a_cons (a_var 0) (a_cons d_int a_nil)))) p_int)))) (b_cons (s_set 2 nd (c_call G__law_shelves (hr.mono (by decide)) tk (a_cons (a_var 0) a_nil))) (b_cons (s_frz 2 (s_set 3 nd (c_call G__law_rows (hr.mono (by decide)) tk (a_cons (a_var 0) (a_cons (a_var 2) (a_cons (d_mod (p_E (c_call G__law_cell_at (hr.mono (by decide)) tk (a_cons (a_var 0) (a_cons d_int a_nil)))) p_int) a_nil)))))) (b_cons (s_set 4 nd (d_mod (p_E (d_add (p_E (d_mul (p_E (c_call G__law_cell_at (hr.mono (by decide)) tk (a_cons (a_var 0) (a_cons d_int a_nil)))) p_int)) p_int)) p_int)) (b_cons (s_set 5 nd (d_add p_int (p_E (d_mod (p_var 4) p_int)))) (b_cons (s_set 6 nd (d_add p_int (p_E (d_mod (p_E (d_div (p_var 4) p_int)) p_int)))) (b_cons (s_set 7 nd (d_gt (p_E (d_mod (p_E (d_div (p_var 4) p_int)) p_int)) p_int)) (b_cons (s_frz 2 (s_frz 3 (s_set 8 nd (c_call G__law_due (hr.mono (by decide)) tk (a_cons (a_var 2) (a_cons (a_var 3) (a_cons (a_var 5) (a_cons (a_var 6) (a_cons (a_var 7) a_nil))))))))) (b_cons (s_frz 2 (s_setlc (i := 9) (k := 10) rfl nd rfl rfl (sw_true rfl rfl rfl (by decide +kernel)) (i_var 2) (by refine (show blkC ["_law_script", "_law_times", "_law_shelves_here", "_law_rows_here", "_law_cell", "_law_width", "_law_height", "_law_turns", "_law_due_here", "_law_great", "_law_shelf", "_law_told", "_law_row", "_law_one", "_law_handed", "_law_kept", "_law_found"] (defScope s_law) _ _ = true from ?_); decide +kernel) (fun _ _ _ _ _ => pg_name (i := 10) nd rfl (Or.inl rfl)) (fun _ _ _ _ _ => by exact ts_nil) (fun _ _ _ _ _ => by exact (d_tup (a_cons (d_mul (p_E (d_ix (p_var 10) p_int)) (p_var 1)) (a_cons (d_mul (p_E (d_ix (p_var 10) p_int)) (p_var 1)) (a_cons (d_ix (p_var 10) p_int) a_nil))))))) (b_cons (s_set 11 nd (d_lst a_nil)) (b_cons (s_frz 3 (s_for hp rfl (i_var 3) (pg_name (i := 12) nd rfl (by first | exact Or.inl rfl | exact Or.inr rfl)) (tgs_name 12) (b_one (s_app 11 (d_F (d_lc (k := 13) rfl nd (i_var 12) (by refine (show blkC ["_law_script", "_law_times", "_law_shelves_here", "_law_rows_here", "_law_cell", "_law_width", "_law_height", "_law_turns", "_law_due_here", "_law_great", "_law_shelf", "_law_told", "_law_row", "_law_one", "_law_handed", "_law_kept", "_law_found"] (defScope s_law) _ _ = true from ?_); decide +kernel) (fun _ _ _ _ _ => pg_name (i := 13) nd rfl (Or.inl rfl)) (fun _ _ _ _ _ => by exact ts_nil) (fun _ _ _ _ _ => by exact (d_F (d_add (p_E (d_tup (a_cons (d_mul (p_E (d_ix (p_var 13) p_int)) (p_var 1)) (a_cons (d_mul (p_E (d_ix (p_var 13) p_int)) (p_var 1)) a_nil)))) (p_E (d_tup (a_cons (d_mul (p_E (d_ix (p_var 13) p_int)) (p_var 1)) (a_cons (d_mul (p_E (d_ix (p_var 13) p_int)) (p_var 1)) a_nil))))))))) (hm := pe_bm PySem.F.plainAttrs_list PySem.F.slot_list_append PySem.F.type_list_append mt_append (pe_var (i := 11) rfl (by first | exact Or.inl rfl | exact Or.inr (Or.inl rfl))) (pa_cons (d_F (d_lc (k := 13) rfl nd (i_var 12) (by refine (show blkC ["_law_script", "_law_times", "_law_shelves_here", "_law_rows_here", "_law_cell", "_law_width", "_law_height", "_law_turns", "_law_due_here", "_law_great", "_law_shelf", "_law_told", "_law_row", "_law_one", "_law_handed", "_law_kept", "_law_found"] (defScope s_law) _ _ = true from ?_); decide +kernel) (fun _ _ _ _ _ => pg_name (i := 13) nd rfl (Or.inl rfl)) (fun _ _ _ _ _ => by exact ts_nil) (fun _ _ _ _ _ => by exact (d_F (d_add (p_E (d_tup (a_cons (d_mul (p_E (d_ix (p_var 13) p_int)) (p_var 1)) (a_cons (d_mul (p_E (d_ix (p_var 13) p_int)) (p_var 1)) a_nil)))) (p_E (d_tup (a_cons (d_mul (p_E (d_ix (p_var 13) p_int)) (p_var 1)) (a_cons (d_mul (p_E (d_ix (p_var 13) p_int)) (p_var 1)) a_nil))))))))) pa_nil)))))) (b_cons (s_frz 11 (s_setlc (i := 14) (k := 12) rfl nd rfl rfl (sw_true rfl rfl rfl (by decide +kernel)) (i_var 11) (by refine (show blkC ["_law_script", "_law_times", "_law_shelves_here", "_law_rows_here", "_law_cell", "_law_width", "_law_height", "_law_turns", "_law_due_here", "_law_great", "_law_shelf", "_law_told", "_law_row", "_law_one", "_law_handed", "_law_kept", "_law_found"] (defScope s_law) _ _ = true from ?_); decide +kernel) (fun _ _ _ _ _ => pg_name (i := 12) nd rfl (Or.inl rfl)) (fun _ _ _ _ _ => by exact ts_nil) (fun _ _ _ _ _ => by exact (d_F (d_list rfl h_list (p_var 12)))))) (b_cons (s_set 15 nd (d_list rfl h_list (p_var 9))) (b_cons (s_frz 15 (s_frz 14 (s_set 16 nd (c_call G_first_place (hr.mono (by decide)) tk (a_cons (a_var 15) (a_cons (a_var 14) (a_cons (d_mul (p_var 5) (p_var 1)) (a_cons (d_mul (p_var 6) (p_var 1)) (a_cons (a_var 7) a_nil))))))))) (b_one (s_frz 16 (s_frz 8 (s_ret (d_and (d_eq hu (p_var 14) (p_var 11)) (d_and (d_eq hu (p_var 15) (p_var 9)) (d_one (c_call G__law_alike (hr.mono (by decide)) tk (a_cons (a_var 16) (a_cons (a_var 8) (a_cons (a_var 1) a_nil)))))))))))))))))))))))))
end
end Pk.Law
namespace Pk.Law
open PySem L2
local macro_rules | `(tactic| walk_at "run") => `(tactic| simp (disch := first | (with_unfolding_all exact eq_ok rfl) | omega | assumption | decide | (simp only [List.length_append, List.length_map, List.length_cons, List.length_nil]; omega) | (simp only [*, noOwn_val, noOwn_nil, noOwn_brw, noOwn_scr, noOwn_rack]; done)) only [beq_self_eq_true, run_while, whK1_t, whK1_f, whK_nx, whK_ct, whK_bk, whK_rt, whK_ex, gStr_int, ix_bx0, ix_bx1, ix_bx2, ix_bx3, isNon_bxD, fz_bxD, len_bxD, optD_some, optD_none, ix_oD0, ix_oD1, ix_oD2, ix_oD3, ix_sh0, ix_sh1, ix_sh2, ix_pl0, ix_pl1, ix_pl2, ix_pl3, ix_sp0, ix_sp1, isNon_oD, isNon_plD, isNon_spD, isNon_shD, fz_oD, fz_plD, fz_shD, fz_spD, hab_left, hab_low, r_ok, r_bad, r_ex, s_ok, s_ex, run_pC, run_dC, run_pE, run_pEK, nrm_val, nrm_own, nrm_brw, nrm_scr, nrm_rack, run_dVar, dVarK_val, dVarK_rack, dVarK_scr, run_pVar', pVarK_some, run_aVar, aVarK_own, aVarK_brw, aVarK_val, aVarK_rack, aVarK_scr, run_dF, dFK_own, dFK_val, run_dOp, run_opK1, run_opK2, run_dAdd, run_dSub, run_dMul, run_dDiv, run_dMod, run_dPow, run_dLt, run_dLe, run_dGt, run_dGe, run_dEq, run_dNe, run_dIsN, run_dNotN, run_dIx, run_dIn, run_dNin, gI_yes, gI_mul, gI_div, gI_mod, gI_106, gI_109, gAdd_int, gAdd_str, gAdd_list, gAdd_tup, gEq_str, gNe_str, gEq_int, gNe_int, gEq_bool, gNe_bool, gIsN_val, gNotN_val, isNon_none, isNon_int, isNon_bool, isNon_tup, isNon_list, isNon_str, gIx_list, gIx_tup, gIx_scr, atI0, atI1, atI2, atI3, atI4, map_some', run_tV, run_tVK, run_tAnd, run_tOr, run_tNot, run_notK, run_dAnd, run_dOr, run_dNot, dNotK_b, dAndK_if, dOrK_if, mg_and, mg_or, andK_if, orK_if, mgT_and, mgT_or, cond_true, cond_false, run_dNeg, negK_int, run_aNil, run_aCons, run_consK1, run_consK2, run_dTup, run_dLst, tupK0, tupK1, tupK2, tupK3, tupK4, tupK5, tupK6, lstK0, lstK1, lstK2, lstK3, lstK4, lstK5, lstK6, run_dB, run_bK, run_dLen, run_dList, run_dTuple, run_dInt, run_dStr, run_dSorted, run_dMax, run_dMin, gLen_list, gLen_tup, gLen_scr, gLen_str, gList_list, gTuple_list, gMax_int, gMin_int, gInt_bool, gInt_int, gSorted_int, run_dIsi, isiK_none, isiK_int, isiK_bool, isiK_str, isiK_tup, isiK_list, isiD_ii, isiD_ib, isiD_bb, isiD_bi, isiD_ss, isiD_tt, isiD_ll, isiD_tn, isiD_in, isiD_bn, run_dSl, run_slK1, run_slK2, run_slK3, run_oNone, run_oSome, run_oSomeK, gSl_list, gSl_tup, gSl_scr, run_dCall, callK_ok, noOwn_nil, noOwn_val, noOwn_brw, noOwn_scr, noOwn_rack, run_dMeth, run_methK1, methK2_ok, run_sSeq, seqK_nx, seqK_rt, seqK_bk, seqK_ex, run_sNil, run_sSet, setK_val, setK_own, setK_rack, run_sRet, retK_val, retK_own, retK_rack, run_sRetV, retVK_some, run_sRetN, run_sExp, run_expK, run_sIf, ifK_t, ifK_f, run_sBrk, run_sFrz, frzK_own, frzK_val, frzK_brw, run_sApp, appK0_own, appK_val, run_sUnp, run_unpK, nsK_some, gNs_nil, gNs_cons, run_sFor, run_forK, loop_nil, loop_consN, loopK_nx, loopK_bk, loopK_rt, loopK_ex, run_iV, iVK_val, iVK_brw, run_iE, iEK_val, iEK_own, run_iRange1, iR1K_ok, run_iRange2, iR2K_ok, run_iS, iSK_str, run_dComp, compK1_ok, run_compK2, run_iEnum1, iEnK_list, enumD_nil, enumD_cons, loop_consT, loopT_some, Int.natCast_zero, atI5, run_sUnpL, unpLK_own, run_sStI, run_stiK1, stiK2_own, stiK3_int, stiK4_some, run_sIns, insK0_own, run_insK1, insK2_ok, run_insK, comp_nil, comp_cons, noEx_ok, compC1_t, compC1_f, compC2_v, run_tTrue, run_defM, defK_nx, defK_rt, defK_ex, o_some', List.getElem?_cons_zero, List.getElem?_cons_succ, List.set_cons_zero, List.set_cons_succ, start', List.map_cons, List.map_nil, List.length_cons, List.length_nil, List.cons_append, List.nil_append, Bool.not_true, Bool.not_false, Bool.true_and, Bool.false_and, Bool.and_true, Bool.and_false, Bool.true_or, Bool.false_or, Bool.or_true, Bool.or_false, Nat.reduceAdd, Nat.reduceSub, Nat.reduceMul, Int.reduceAdd, Int.reduceSub, Int.reduceMul, Int.reduceNeg, List.replicate_succ, List.replicate_zero, decide_true, decide_false])
local macro_rules | `(tactic| walk_at "runh") => `(tactic| simp (disch := first | (with_unfolding_all exact eq_ok rfl) | omega | assumption | decide | (simp only [List.length_append, List.length_map, List.length_cons, List.length_nil]; omega) | (simp only [*, noOwn_val, noOwn_nil, noOwn_brw, noOwn_scr, noOwn_rack]; done)) only [beq_self_eq_true, run_while, whK1_t, whK1_f, whK_nx, whK_ct, whK_bk, whK_rt, whK_ex, gStr_int, ix_bx0, ix_bx1, ix_bx2, ix_bx3, isNon_bxD, fz_bxD, len_bxD, optD_some, optD_none, ix_oD0, ix_oD1, ix_oD2, ix_oD3, ix_sh0, ix_sh1, ix_sh2, ix_pl0, ix_pl1, ix_pl2, ix_pl3, ix_sp0, ix_sp1, isNon_oD, isNon_plD, isNon_spD, isNon_shD, fz_oD, fz_plD, fz_shD, fz_spD, hab_left, hab_low, r_ok, r_bad, r_ex, s_ok, s_ex, run_pC, run_dC, run_pE, run_pEK, nrm_val, nrm_own, nrm_brw, nrm_scr, nrm_rack, run_dVar, dVarK_val, dVarK_rack, dVarK_scr, run_pVar', pVarK_some, run_aVar, aVarK_own, aVarK_brw, aVarK_val, aVarK_rack, aVarK_scr, run_dF, dFK_own, dFK_val, run_dOp, run_opK1, run_opK2, run_dAdd, run_dSub, run_dMul, run_dDiv, run_dMod, run_dPow, run_dLt, run_dLe, run_dGt, run_dGe, run_dEq, run_dNe, run_dIsN, run_dNotN, run_dIx, run_dIn, run_dNin, gI_yes, gI_mul, gI_div, gI_mod, gI_106, gI_109, gAdd_int, gAdd_str, gAdd_list, gAdd_tup, gEq_str, gNe_str, gEq_int, gNe_int, gEq_bool, gNe_bool, gIsN_val, gNotN_val, isNon_none, isNon_int, isNon_bool, isNon_tup, isNon_list, isNon_str, gIx_list, gIx_tup, gIx_scr, atI0, atI1, atI2, atI3, atI4, map_some', run_tV, run_tVK, run_tAnd, run_tOr, run_tNot, run_notK, run_dAnd, run_dOr, run_dNot, dNotK_b, dAndK_if, dOrK_if, mg_and, mg_or, andK_if, orK_if, mgT_and, mgT_or, cond_true, cond_false, run_dNeg, negK_int, run_aNil, run_aCons, run_consK1, run_consK2, run_dTup, run_dLst, tupK0, tupK1, tupK2, tupK3, tupK4, tupK5, tupK6, lstK0, lstK1, lstK2, lstK3, lstK4, lstK5, lstK6, run_dB, run_bK, run_dLen, run_dList, run_dTuple, run_dInt, run_dStr, run_dSorted, run_dMax, run_dMin, gLen_list, gLen_tup, gLen_scr, gLen_str, gList_list, gTuple_list, gMax_int, gMin_int, gInt_bool, gInt_int, gSorted_int, run_dIsi, isiK_none, isiK_int, isiK_bool, isiK_str, isiK_tup, isiK_list, isiD_ii, isiD_ib, isiD_bb, isiD_bi, isiD_ss, isiD_tt, isiD_ll, isiD_tn, isiD_in, isiD_bn, run_dSl, run_slK1, run_slK2, run_slK3, run_oNone, run_oSome, run_oSomeK, gSl_list, gSl_tup, gSl_scr, run_dCall, callK_ok, noOwn_nil, noOwn_val, noOwn_brw, noOwn_scr, noOwn_rack, run_dMeth, run_methK1, methK2_ok, run_sSeq, seqK_nx, seqK_rt, seqK_bk, seqK_ex, run_sNil, run_sSet, setK_val, setK_own, setK_rack, run_sRet, retK_val, retK_own, retK_rack, run_sRetV, retVK_some, run_sRetN, run_sExp, run_expK, run_sIf, ifK_t, ifK_f, run_sBrk, run_sFrz, frzK_own, frzK_val, frzK_brw, run_sApp, appK0_own, appK_val, run_sUnp, run_unpK, nsK_some, gNs_nil, gNs_cons, run_sFor, run_forK, loop_nil, loop_consN, loopK_nx, loopK_bk, loopK_rt, loopK_ex, run_iV, iVK_val, iVK_brw, run_iE, iEK_val, iEK_own, run_iRange1, iR1K_ok, run_iRange2, iR2K_ok, run_iS, iSK_str, run_dComp, compK1_ok, run_compK2, run_iEnum1, iEnK_list, enumD_nil, enumD_cons, loop_consT, loopT_some, Int.natCast_zero, atI5, run_sUnpL, unpLK_own, run_sStI, run_stiK1, stiK2_own, stiK3_int, stiK4_some, run_sIns, insK0_own, run_insK1, insK2_ok, run_insK, comp_nil, comp_cons, noEx_ok, compC1_t, compC1_f, compC2_v, run_tTrue, run_defM, defK_nx, defK_rt, defK_ex, o_some', List.getElem?_cons_zero, List.getElem?_cons_succ, List.set_cons_zero, List.set_cons_succ, start', List.map_cons, List.map_nil, List.length_cons, List.length_nil, List.cons_append, List.nil_append, Bool.not_true, Bool.not_false, Bool.true_and, Bool.false_and, Bool.and_true, Bool.and_false, Bool.true_or, Bool.false_or, Bool.or_true, Bool.or_false, Nat.reduceAdd, Nat.reduceSub, Nat.reduceMul, Int.reduceAdd, Int.reduceSub, Int.reduceMul, Int.reduceNeg, List.replicate_succ, List.replicate_zero, decide_true, decide_false, *])
theorem cell_eq {ns : List Int} {k : Int} {S : List RS} (h : 0 ≤ k) : m__law_cell_at [.scr ns, .val (.int k)] S = .ok (.val (.int (cell ns k))) S := by
  unfold m__law_cell_at t__law_cell_at
  walk_at "run"
  by_cases h1 : k < ns.length
  · rw [decide_eq_true h1]
    walk_at "run"
    rw [cell_at h h1]
    walk_at "run"
  · rw [decide_eq_false h1]
    walk_at "run"
    rw [cell_out h1]

/-! shapes -/
def ovO (p q : O4) : Bool := !(decide (p.1 + p.2.2.1 ≤ q.1) || decide (q.1 + q.2.2.1 ≤ p.1)) && (decide (p.2.1 < q.2.1 + q.2.2.2) && decide (q.2.1 < p.2.1 + p.2.2.2))
theorem overlap_eq {p q : O4} {S : List RS} : m_overlap [.val (oD p), .val (oD q)] S = .ok (.val (.bool (ovO p q))) S := by
  obtain ⟨a, b, c, d⟩ := p
  obtain ⟨e, f, g, h⟩ := q
  unfold m_overlap t_overlap ovO oD
  walk_at "run"
  cases (decide (a + c ≤ e) || decide (e + g ≤ a)) <;> walk_at "run"
def inO (o : O4) (w h : Int) : Bool := !(decide (o.1 < 0) || decide (o.2.1 < 0)) && (decide (o.1 + o.2.2.1 ≤ w) && decide (o.2.1 + o.2.2.2 ≤ h))
theorem inside_eq {o : O4} {w h : Int} {S : List RS} : m_inside [.val (oD o), .val (.int w), .val (.int h)] S = .ok (.val (.bool (inO o w h))) S := by
  obtain ⟨a, b, c, d⟩ := o
  unfold m_inside t_inside inO oD
  walk_at "run"
  cases (decide (a < 0) || decide (b < 0)) <;> walk_at "run"
def hitF (i : Int) (o : O4) : List O4 → Option Int
  | [] => none
  | p :: ps => if ovO p o then some i else hitF (i + 1) o ps
def OS.hit (r : Option Int) (τ : Sl) (S : List RS) : OS := match r with | none => .nx τ S | some k => .rt (.val (.int k)) S
theorem first_hit_loop {x : Xv} (o : O4) (S : List RS) (all : List O4) (h : IsL x (all.map oD)) : ∀ (ps pre : List O4) (y : Option Xv), all = pre ++ ps →
    ∃ y', loopS (gN 2) L1_first_hit (rg pre.length ps.length) [some x, some (.val (oD o)), y] S = OS.hit (hitF pre.length o ps) [some x, some (.val (oD o)), y'] S
  | [], pre, y, e => ⟨y, rfl⟩
  | p :: ps, pre, y, e => by
    have e1 : atI (all.map oD) (pre.length : Int) = some (oD p) := by rw [e, atI_map, atI_front]; rfl
    have e2 := @overlap_eq
    obtain ⟨h1, h2, h3, h4, h5⟩ := id h
    obtain ⟨y', ih⟩ := first_hit_loop o S all h ps (pre ++ [p]) (some (.val (.int pre.length))) (by rw [e]; simp)
    rw [List.length_append, List.length_singleton] at ih
    have e4 : ((pre.length + 1 : Nat) : Int) = (pre.length : Int) + 1 := by omega
    rw [e4] at ih
    refine ⟨y', ?_⟩
    show loopS (gN 2) L1_first_hit (.int pre.length :: rg (pre.length + 1) ps.length) _ S = _
    rw [loop_consN rfl]
    have hb := fun τ S => congrFun (congrFun L1_first_hit.eq_1 τ) S
    unfold hitF
    clear e4 e
    walk_at "runh"
    cases ovO p o <;> walk_at "runh"
    · rfl
    · rfl
theorem first_hit_eq {x : Xv} {os : List O4} {o : O4} {S : List RS} (h : IsL x (os.map oD)) (hl : os.length < 1000000) : m_first_hit [x, .val (oD o)] S = .ok (.val (optD .int (hitF 0 o os))) S := by
  obtain ⟨h1, h2, h3, h4, h5⟩ := id h
  obtain ⟨y', l⟩ := first_hit_loop o S os h os [] none rfl
  unfold m_first_hit t_first_hit
  have e1 : (os.map oD).length = os.length := List.length_map _
  simp only [List.length_nil, Int.natCast_zero] at l
  clear h
  walk_at "runh"
  rw [Int.toNat_natCast, rangeD_rg, l]
  cases hitF 0 o os with
  | none => unfold OS.hit; walk_at "run"
  | some k => unfold OS.hit; walk_at "run"
def fitO (os : List O4) (o : O4) (w h : Int) : Bool := inO o w h && (hitF 0 o os).isNone
theorem fits_eq {x : Xv} {os : List O4} {o : O4} {w h : Int} {S : List RS} (hx : IsL x (os.map oD)) (hl : os.length < 1000000) : m_fits [x, .val (oD o), .val (.int w), .val (.int h)] S = .ok (.val (.bool (fitO os o w h))) S := by
  have e1 := @inside_eq
  have e2 : ∀ S, m_first_hit [x, .val (oD o)] S = .ok (.val (optD .int (hitF 0 o os))) S := fun S => first_hit_eq hx hl
  obtain ⟨h1, h2, h3, h4, h5⟩ := hx
  unfold m_fits t_fits fitO
  walk_at "runh"
  rw [isNon_optD _ (fun _ => rfl)]


theorem ovO_iff {p q : O4} : ovO p q = false ↔ Apart p q := by
  unfold ovO Apart
  rw [Bool.and_eq_false_iff, Bool.and_eq_false_iff]
  simp only [Bool.not_eq_false', Bool.or_eq_true, decide_eq_true_eq, decide_eq_false_iff_not]
  omega
theorem inO_iff {o : O4} {w h : Int} : inO o w h = true ↔ InS o w h := by
  unfold inO InS
  simp only [Bool.and_eq_true, Bool.not_eq_true', Bool.or_eq_false_iff, decide_eq_true_eq, decide_eq_false_iff_not]
  omega
theorem hitF_none {o : O4} : ∀ {os : List O4} {i : Int}, (hitF i o os).isNone = true ↔ ∀ p ∈ os, Apart p o
  | [], i => ⟨fun _ p hp => absurd hp List.not_mem_nil, fun _ => rfl⟩
  | p :: ps, i => by
    unfold hitF
    rw [List.forall_mem_cons, ← ovO_iff]
    cases ovO p o with
    | true => exact ⟨fun h => (by cases h), fun h => (by cases h.1)⟩
    | false =>
      rw [if_neg Bool.false_ne_true, hitF_none]
      exact ⟨fun h => ⟨rfl, h⟩, fun h => h.2⟩
theorem fitO_iff {os : List O4} {o : O4} {w h : Int} : fitO os o w h = true ↔ Fit os o w h := by
  unfold fitO Fit
  rw [Bool.and_eq_true, inO_iff, hitF_none]
/-- the ends, each once -/
def endP (b : Bool) (o : O4) : Int := if b then o.2.1 + o.2.2.2 else o.1 + o.2.2.1
def endL (b : Bool) (acc : List Int) : List O4 → List Int
  | [] => acc
  | o :: os => endL b (if endP b o ∈ acc then acc else acc ++ [endP b o]) os
theorem endL_len (b : Bool) : ∀ (os : List O4) (acc : List Int), (endL b acc os).length ≤ acc.length + os.length
  | [], acc => by simp [endL]
  | o :: os, acc => by
    unfold endL
    have := endL_len b os (if endP b o ∈ acc then acc else acc ++ [endP b o])
    rw [List.length_cons]
    refine Nat.le_trans this ?_
    split
    · omega
    · rw [List.length_append, List.length_singleton]; omega
theorem endL_mem (b : Bool) : ∀ (os : List O4) (acc : List Int) (e : Int), e ∈ endL b acc os ↔ e ∈ acc ∨ ∃ p ∈ os, e = endP b p
  | [], acc, e => by simp [endL]
  | o :: os, acc, e => by
    unfold endL
    rw [endL_mem b os]
    constructor
    · rintro (h | ⟨p, hp, rfl⟩)
      · by_cases hm : endP b o ∈ acc
        · rw [if_pos hm] at h
          exact .inl h
        · rw [if_neg hm, List.mem_append, List.mem_singleton] at h
          exact h.elim .inl fun h => .inr ⟨o, List.mem_cons_self, h⟩
      · exact .inr ⟨p, List.mem_cons_of_mem _ hp, rfl⟩
    · rintro (h | ⟨p, hp, rfl⟩)
      · left
        split
        · exact h
        · exact List.mem_append_left _ h
      · rcases List.mem_cons.mp hp with rfl | hp
        · left
          split
          · assumption
          · exact List.mem_append_right _ (List.mem_singleton.mpr rfl)
        · exact .inr ⟨p, hp, rfl⟩
theorem any_int (acc : List Int) (e : Int) : ((acc.map PyData.int).any fun z => PyData.eqv z (.int e)) = decide (e ∈ acc) := by
  rw [Bool.eq_iff_iff, List.any_eq_true, decide_eq_true_eq]
  constructor
  · rintro ⟨z, hz, h⟩
    obtain ⟨i, hi, rfl⟩ := List.mem_map.mp hz
    have : i = e := by simpa [PyData.eqv] using h
    rwa [← this]
  · intro h
    exact ⟨.int e, List.mem_map_of_mem h, by simp [PyData.eqv]⟩
theorem nin_int {acc : List Int} {e : Int} : gIn true (.val (.int e)) (.val (.list (acc.map .int))) = some (.val (.bool (!decide (e ∈ acc)))) :=
  gNin_list sh_int (shaped_map PyData.int (fun a => by simp [PyData.canLay0, PyData.depth]) acc) (any_int acc e)
theorem ends_loop {b : Bool} {a : Option Xv} {S : List RS} : ∀ (os : List O4) (acc : List Int) (y3 y4 : Option Xv), acc.length + os.length ≤ 1000000 →
    ∃ y3' y4', loopS (gN 3) L1_ends (os.map oD) [a, some (.val (.int (b2i b))), some (.own (acc.map .int)), y3, y4] S = .nx [a, some (.val (.int (b2i b))), some (.own ((endL b acc os).map .int)), y3', y4'] S
  | [], acc, y3, y4, _ => ⟨y3, y4, rfl⟩
  | o :: os, acc, y3, y4, hl => by
    rw [List.length_cons] at hl
    obtain ⟨z3, z4, ih⟩ := ends_loop (b := b) (a := a) (S := S) os (if endP b o ∈ acc then acc else acc ++ [endP b o]) (some (.val (oD o))) (some (.val (.int (endP b o)))) (by
      split
      · omega
      · rw [List.length_append, List.length_singleton]; omega)
    refine ⟨z3, z4, ?_⟩
    have hb := fun τ S => congrFun (congrFun L1_ends.eq_1 τ) S
    have e1 := @nin_int acc
    have e2 : (acc.map PyData.int).length < 16777216 := by rw [List.length_map]; omega
    rw [show endL b acc (o :: os) = endL b (if endP b o ∈ acc then acc else acc ++ [endP b o]) os from rfl, ← ih]
    clear ih hl
    rw [List.map_cons, loop_consN rfl]
    obtain ⟨o1, o2, o3, o4⟩ := o
    unfold oD
    cases b with
    | false =>
      show loopK _ _ _ (L1_ends [a, some (.val (.int 0)), _, _, _] S) = loopS _ _ _ [a, some (.val (.int 0)), _, _, _] S
      unfold endP
      walk_at "runh"
      by_cases hm : o1 + o3 ∈ acc
      · rw [decide_eq_true hm]
        simp only [hm, if_true, Bool.false_eq_true, if_false]
        walk_at "runh"
      · rw [decide_eq_false hm]
        simp only [hm, Bool.false_eq_true, if_false, List.map_append]
        walk_at "runh"
    | true =>
      show loopK _ _ _ (L1_ends [a, some (.val (.int 1)), _, _, _] S) = loopS _ _ _ [a, some (.val (.int 1)), _, _, _] S
      unfold endP
      walk_at "runh"
      by_cases hm : o2 + o4 ∈ acc
      · rw [decide_eq_true hm]
        simp only [hm, if_true, Bool.false_eq_true, if_false]
        walk_at "runh"
      · rw [decide_eq_false hm]
        simp only [hm, Bool.false_eq_true, if_false, if_true, List.map_append]
        walk_at "runh"
def endsI (b : Bool) (os : List O4) : List Int := sortI (endL b [0] os)
theorem ends_eq {x : Xv} {os : List O4} {b : Bool} {S : List RS} (hx : IsL x (os.map oD)) (hl : os.length ≤ 900000) : m_ends [x, .val (.int (b2i b))] S = .ok (.own ((endsI b os).map .int)) S := by
  obtain ⟨y3, y4, l⟩ := ends_loop (b := b) (a := some x) (S := S) os [0] none none (by simp; omega)
  rw [show [(0 : Int)].map PyData.int = [.int 0] from rfl] at l
  have e1 := @gSorted_int (endL b [0] os)
  obtain ⟨h1, h2, h3, h4, h5⟩ := hx
  unfold m_ends t_ends endsI
  walk_at "runh"
theorem endsI_pw (b : Bool) (os : List O4) : (endsI b os).Pairwise (· ≤ ·) := sortI_pw _
theorem endsI_mem {b : Bool} {os : List O4} {e : Int} : e ∈ endsI b os ↔ e = 0 ∨ ∃ p ∈ os, e = endP b p := by
  unfold endsI
  rw [(sortI_perm _).mem_iff, endL_mem, List.mem_singleton]
theorem endsI_len (b : Bool) (os : List O4) : (endsI b os).length ≤ 1 + os.length := by
  unfold endsI
  rw [(sortI_perm _).length_eq]
  exact endL_len b os [0]
def OS.opt (r : Option D) (τ : Sl) (S : List RS) : OS := match r with | none => .nx τ S | some d => .rt (.val d) S
theorem fs_in1 {x : Xv} {os : List O4} {s : S3} {w h u : Int} {x4 x5 : Option Xv} {S : List RS} (hx : IsL x (os.map oD)) (hl : os.length < 1000000) : ∀ (ls : List Int) (y : Option Xv),
    ∃ y', loopS (gN 7) L1_first_spot (ls.map .int) [some x, some (.val (shD s)), some (.val (.int w)), some (.val (.int h)), x4, x5, some (.val (.int u)), y] S = OS.opt ((ls.find? fun l => fitO os (l, u, w, h) s.1 s.2.1).map fun l => spD (u, l)) [some x, some (.val (shD s)), some (.val (.int w)), some (.val (.int h)), x4, x5, some (.val (.int u)), y'] S
  | [], y => ⟨y, rfl⟩
  | l :: ls, y => by
    obtain ⟨z, ih⟩ := fs_in1 (u := u) (s := s) (w := w) (h := h) (x4 := x4) (x5 := x5) (S := S) hx hl ls (some (.val (.int l)))
    refine ⟨z, ?_⟩
    have hb := fun τ S => congrFun (congrFun L1_first_spot.eq_1 τ) S
    have e1 : ∀ S, m_fits [x, .val (.tuple [.int l, .int u, .int w, .int h]), .val (.int s.1), .val (.int s.2.1)] S = .ok (.val (.bool (fitO os (l, u, w, h) s.1 s.2.1))) S := fun S => fits_eq (o := (l, u, w, h)) hx hl
    obtain ⟨h1, h2, h3, h4, h5⟩ := hx
    rw [List.map_cons, loop_consN rfl, List.find?_cons]
    cases hp : fitO os (l, u, w, h) s.1 s.2.1 with
    | true =>
      rw [hp] at e1
      clear ih hp
      dsimp only
      walk_at "runh"
      rfl
    | false =>
      rw [hp] at e1
      clear hp
      dsimp only
      rw [← ih]
      clear ih
      walk_at "runh"
theorem fs_in3 {x : Xv} {os : List O4} {s : S3} {w h l : Int} {x4 x5 : Option Xv} {S : List RS} (hx : IsL x (os.map oD)) (hl : os.length < 1000000) : ∀ (us : List Int) (y : Option Xv),
    ∃ y', loopS (gN 6) L3_first_spot (us.map .int) [some x, some (.val (shD s)), some (.val (.int w)), some (.val (.int h)), x4, x5, y, some (.val (.int l))] S = OS.opt ((us.find? fun u => fitO os (l, u, w, h) s.1 s.2.1).map fun u => spD (u, l)) [some x, some (.val (shD s)), some (.val (.int w)), some (.val (.int h)), x4, x5, y', some (.val (.int l))] S
  | [], y => ⟨y, rfl⟩
  | u :: us, y => by
    obtain ⟨z, ih⟩ := fs_in3 (l := l) (s := s) (w := w) (h := h) (x4 := x4) (x5 := x5) (S := S) hx hl us (some (.val (.int u)))
    refine ⟨z, ?_⟩
    have hb := fun τ S => congrFun (congrFun L3_first_spot.eq_1 τ) S
    have e1 : ∀ S, m_fits [x, .val (.tuple [.int l, .int u, .int w, .int h]), .val (.int s.1), .val (.int s.2.1)] S = .ok (.val (.bool (fitO os (l, u, w, h) s.1 s.2.1))) S := fun S => fits_eq (o := (l, u, w, h)) hx hl
    obtain ⟨h1, h2, h3, h4, h5⟩ := hx
    rw [List.map_cons, loop_consN rfl, List.find?_cons]
    cases hp : fitO os (l, u, w, h) s.1 s.2.1 with
    | true =>
      rw [hp] at e1
      clear ih hp
      dsimp only
      walk_at "runh"
      rfl
    | false =>
      rw [hp] at e1
      clear hp
      dsimp only
      rw [← ih]
      clear ih
      walk_at "runh"
theorem fs_out2 {x : Xv} {os : List O4} {s : S3} {w h : Int} {x4 : Option Xv} {ls : List Int} {S : List RS} (hx : IsL x (os.map oD)) (hl : os.length < 1000000) : ∀ (us : List Int) (x5 : Xv) (y6 y7 : Option Xv), (x5 = .own (ls.map .int) ∨ x5 = .val (.list (ls.map .int))) →
    ∃ τ', loopS (gN 6) L2_first_spot (us.map .int) [some x, some (.val (shD s)), some (.val (.int w)), some (.val (.int h)), x4, some x5, y6, y7] S = OS.opt ((scan (fun u l => fitO os (l, u, w, h) s.1 s.2.1) us ls).map spD) τ' S
  | [], x5, y6, y7, _ => ⟨_, rfl⟩
  | u :: us, x5, y6, y7, h5 => by
    obtain ⟨z7, li⟩ := fs_in1 (u := u) (s := s) (w := w) (h := h) (x4 := x4) (x5 := some (.val (.list (ls.map .int)))) (S := S) hx hl ls y7
    obtain ⟨τ', ih⟩ := fs_out2 (s := s) (w := w) (h := h) (x4 := x4) (S := S) (ls := ls) hx hl us (.val (.list (ls.map .int))) (some (.val (.int u))) z7 (.inr rfl)
    refine ⟨τ', ?_⟩
    have hb := fun τ S => congrFun (congrFun L2_first_spot.eq_1 τ) S
    rw [List.map_cons, loop_consN rfl]
    unfold scan
    rw [show loopK (gN 6) L2_first_spot (us.map .int) _ = loopK (gN 6) L2_first_spot (us.map .int) (loopS (gN 7) L1_first_spot (ls.map .int) [some x, some (.val (shD s)), some (.val (.int w)), some (.val (.int h)), x4, some (.val (.list (ls.map .int))), some (.val (.int u)), y7] S) from by
      clear ih li
      rcases h5 with rfl | rfl <;> walk_at "runh", li]
    cases ls.find? (fun l => fitO os (l, u, w, h) s.1 s.2.1) with
    | some l => rfl
    | none =>
      show loopK _ _ _ (.nx _ S) = _
      rw [loopK_nx, ih]
theorem fs_out4 {x : Xv} {os : List O4} {s : S3} {w h : Int} {x5 : Option Xv} {us : List Int} {S : List RS} (hx : IsL x (os.map oD)) (hl : os.length < 1000000) : ∀ (ls : List Int) (x4 : Xv) (y6 y7 : Option Xv), (x4 = .own (us.map .int) ∨ x4 = .val (.list (us.map .int))) →
    ∃ τ', loopS (gN 7) L4_first_spot (ls.map .int) [some x, some (.val (shD s)), some (.val (.int w)), some (.val (.int h)), some x4, x5, y6, y7] S = OS.opt (((scan (fun l u => fitO os (l, u, w, h) s.1 s.2.1) ls us).map fun s => (s.2, s.1)).map spD) τ' S
  | [], x4, y6, y7, _ => ⟨_, rfl⟩
  | l :: ls, x4, y6, y7, h5 => by
    obtain ⟨z7, li⟩ := fs_in3 (l := l) (s := s) (w := w) (h := h) (x4 := some (.val (.list (us.map .int)))) (x5 := x5) (S := S) hx hl us y6
    obtain ⟨τ', ih⟩ := fs_out4 (s := s) (w := w) (h := h) (x5 := x5) (S := S) (us := us) hx hl ls (.val (.list (us.map .int))) z7 (some (.val (.int l))) (.inr rfl)
    refine ⟨τ', ?_⟩
    have hb := fun τ S => congrFun (congrFun L4_first_spot.eq_1 τ) S
    rw [List.map_cons, loop_consN rfl]
    unfold scan
    rw [show loopK (gN 7) L4_first_spot (ls.map .int) _ = loopK (gN 7) L4_first_spot (ls.map .int) (loopS (gN 6) L3_first_spot (us.map .int) [some x, some (.val (shD s)), some (.val (.int w)), some (.val (.int h)), some (.val (.list (us.map .int))), x5, y6, some (.val (.int l))] S) from by
      clear ih li
      rcases h5 with rfl | rfl <;> walk_at "runh", li]
    cases us.find? (fun u => fitO os (l, u, w, h) s.1 s.2.1) with
    | some u => rfl
    | none =>
      show loopK _ _ _ (.nx _ S) = _
      rw [loopK_nx, ih]
def fspot (os : List O4) (s : S3) (w h : Int) : Option (Int × Int) := spotS s.2.2 (fun q => fitO os (atS q (w, h)) s.1 s.2.1) (endsI true os) (endsI false os)
theorem fspot_eq {x : Xv} {os : List O4} {s : S3} {w h : Int} {S : List RS} (hx : IsL x (os.map oD)) (hl : os.length ≤ 900000) : m_first_spot [x, .val (shD s), .val (.int w), .val (.int h)] S = .ok (.val (optD spD (fspot os s w h))) S := by
  have e1 : ∀ S, m_ends [x, .val (.int 1)] S = .ok (.own ((endsI true os).map .int)) S := fun S => ends_eq (b := true) hx hl
  have e0 : ∀ S, m_ends [x, .val (.int 0)] S = .ok (.own ((endsI false os).map .int)) S := fun S => ends_eq (b := false) hx hl
  have hl2 : os.length < 1000000 := by omega
  unfold fspot spotS
  obtain ⟨a, b, c⟩ := s
  cases c with
  | false =>
    obtain ⟨τ', l⟩ := fs_out2 (s := (a, b, false)) (w := w) (h := h) (x4 := some (.val (.list ((endsI true os).map .int)))) (ls := endsI false os) (S := S) hx hl2 (endsI true os) (.own ((endsI false os).map .int)) none none (.inl rfl)
    obtain ⟨h1, h2, h3, h4, h5⟩ := hx
    rw [if_neg Bool.false_ne_true]
    unfold m_first_spot t_first_spot
    walk_at "runh"
    unfold atS
    cases scan (fun u l => fitO os (l, u, w, h) a b) (endsI true os) (endsI false os) with
    | none => show defK (seqK _ (seqK _ (.nx _ _))) = _; walk_at "run"
    | some s => rfl
  | true =>
    obtain ⟨τ', l⟩ := fs_out4 (s := (a, b, true)) (w := w) (h := h) (x5 := some (.val (.list ((endsI false os).map .int)))) (us := endsI true os) (S := S) hx hl2 (endsI false os) (.own ((endsI true os).map .int)) none none (.inl rfl)
    obtain ⟨h1, h2, h3, h4, h5⟩ := hx
    rw [if_pos rfl]
    unfold m_first_spot t_first_spot
    walk_at "runh"
    unfold atS
    cases scan (fun l u => fitO os (l, u, w, h) a b) (endsI false os) (endsI true os) with
    | none => show defK (seqK _ (.nx _ _)) = _; walk_at "run"; rfl
    | some s => rfl
theorem fspot_first (os : List O4) (s : S3) (w h : Int) : FirstS s.2.2 (fun q => Fit os (atS q (w, h)) s.1 s.2.1) (fspot os s w h) := by
  apply first_ends
  refine first_iff ?_ (spotS_first (endsI_pw true os) (endsI_pw false os))
  intro q
  rw [fitO_iff, endsI_mem, endsI_mem]
  exact Iff.rfl

theorem lesser_eq {s : S3} {p q : Int × Int} {S : List RS} : m_lesser [.val (shD s), .val (spD p), .val (spD q)] S = .ok (.val (.bool (lsB s.2.2 p q))) S := by
  obtain ⟨w, h, b⟩ := s
  obtain ⟨a1, a2⟩ := p
  obtain ⟨b1, b2⟩ := q
  unfold m_lesser t_lesser lsB
  cases b
  · by_cases h1 : a1 = b1
    · subst h1
      simp only [ne_eq, not_true_eq_false, if_false, Bool.false_eq_true]
      walk_at "runh"
    · have h2 : (a1 == b1) = false := beq_eq_false_iff_ne.mpr h1
      simp only [ne_eq, h1, not_false_eq_true, if_true, if_false, Bool.false_eq_true]
      walk_at "runh"
  · by_cases h1 : a2 = b2
    · subst h1
      simp only [ne_eq, not_true_eq_false, if_false, if_true]
      walk_at "runh"
    · have h2 : (a2 == b2) = false := beq_eq_false_iff_ne.mpr h1
      simp only [ne_eq, h1, not_false_eq_true, if_true]
      walk_at "runh"

def trD (r : (Int × Int) × Bool) : D := .tuple [.int r.1.1, .int r.1.2, .bool r.2]
theorem ix_tr0 {r : (Int × Int) × Bool} : gIx (.val (trD r)) (.val (.int 0)) = some (.val (.int r.1.1)) := by unfold trD; rw [gIx_tup, atI0]; rfl
theorem ix_tr1 {r : (Int × Int) × Bool} : gIx (.val (trD r)) (.val (.int 1)) = some (.val (.int r.1.2)) := by unfold trD; rw [gIx_tup, atI1]; rfl
theorem ix_tr2 {r : (Int × Int) × Bool} : gIx (.val (trD r)) (.val (.int 2)) = some (.val (.bool r.2)) := by unfold trD; rw [gIx_tup, atI2]; rfl
def fon (os : List O4) (s : S3) (w h : Int) (t : Bool) : Option ((Int × Int) × Bool) := comb s.2.2 (if t = true then fspot os s h w else none) (fspot os s w h)
theorem fon_eq {x : Xv} {os : List O4} {s : S3} {w h : Int} {t : Bool} {S : List RS} (hx : IsL x (os.map oD)) (hl : os.length ≤ 900000) : m_first_on [x, .val (shD s), .val (.int w), .val (.int h), .val (.bool t)] S = .ok (.val (optD trD (fon os s w h t))) S := by
  have e1 : ∀ S, m_first_spot [x, .val (shD s), .val (.int w), .val (.int h)] S = .ok (.val (optD spD (fspot os s w h))) S := fun S => fspot_eq hx hl
  have e2 : ∀ S, m_first_spot [x, .val (shD s), .val (.int h), .val (.int w)] S = .ok (.val (optD spD (fspot os s h w))) S := fun S => fspot_eq hx hl
  have e3 := @lesser_eq
  obtain ⟨h1, h2, h3, h4, h5⟩ := hx
  unfold m_first_on t_first_on fon
  generalize fspot os s w h = u at e1 ⊢
  generalize fspot os s h w = a at e2 ⊢
  have hn : isNon .none = true := rfl
  cases t with
  | false =>
    rw [if_neg Bool.false_ne_true]
    cases u with
    | none => walk_at "runh"; rfl
    | some u => walk_at "runh"; rfl
  | true =>
    rw [if_pos rfl]
    cases u with
    | none =>
      cases a with
      | none => walk_at "runh"; rfl
      | some a => walk_at "runh"; rfl
    | some u =>
      cases a with
      | none => walk_at "runh"; rfl
      | some a =>
        rw [comb_ss]
        walk_at "runh"
        cases lsB s.2.2 a u with
        | true => rw [if_pos rfl]; walk_at "runh"; rfl
        | false => rw [if_neg Bool.false_ne_true]; walk_at "runh"; rfl
def fplace (w h : Int) (t : Bool) (i : Int) : List (S3 × List O4) → Option P4
  | [] => none
  | (s, os) :: r => match fon os s w h t with
    | some q => some (i, q.1.1, q.1.2, q.2)
    | none => fplace w h t (i + 1) r
theorem fp_loop {x y : Xv} {w h : Int} {t : Bool} {S : List RS} (all : List (S3 × List O4)) (hx : IsL x (all.map fun r => shD r.1)) (hy : IsL y (all.map fun r => rowD r.2)) (hl : ∀ r ∈ all, r.2.length ≤ 900000) : ∀ (ps pre : List (S3 × List O4)) (z5 z6 : Option Xv), all = pre ++ ps →
    ∃ z5' z6', loopS (gN 5) L1_first_place (rg pre.length ps.length) [some x, some y, some (.val (.int w)), some (.val (.int h)), some (.val (.bool t)), z5, z6] S = OS.opt ((fplace w h t pre.length ps).map plD) [some x, some y, some (.val (.int w)), some (.val (.int h)), some (.val (.bool t)), z5', z6'] S
  | [], pre, z5, z6, e => ⟨z5, z6, rfl⟩
  | (s, os) :: ps, pre, z5, z6, e => by
    have e1 : atI (all.map fun r => shD r.1) (pre.length : Int) = some (shD s) := by rw [e, atI_map, atI_front]; rfl
    have e2 : atI (all.map fun r => rowD r.2) (pre.length : Int) = some (.list (os.map oD)) := by rw [e, atI_map, atI_front]; rfl
    have hlo : os.length ≤ 900000 := hl (s, os) (by rw [e]; simp)
    have e3 : ∀ S, m_first_on [.val (.list (os.map oD)), .val (shD s), .val (.int w), .val (.int h), .val (.bool t)] S = .ok (.val (optD trD (fon os s w h t))) S := fun S => fon_eq (isL_val _) hlo
    obtain ⟨z5', z6', ih⟩ := fp_loop (w := w) (h := h) (t := t) (S := S) all hx hy hl ps (pre ++ [(s, os)]) (some (.val (.int pre.length))) (some (.val (optD trD (fon os s w h t)))) (by rw [e]; simp)
    rw [List.length_append, List.length_singleton] at ih
    have e4 : ((pre.length + 1 : Nat) : Int) = (pre.length : Int) + 1 := by omega
    rw [e4] at ih
    refine ⟨z5', z6', ?_⟩
    obtain ⟨h1, h2, h3, h4, h5⟩ := hx
    obtain ⟨g1, g2, g3, g4, g5⟩ := hy
    show loopS (gN 5) L1_first_place (.int pre.length :: rg (pre.length + 1) ps.length) _ S = _
    rw [loop_consN rfl]
    have hb := fun τ S => congrFun (congrFun L1_first_place.eq_1 τ) S
    rw [show fplace w h t pre.length ((s, os) :: ps) = (match fon os s w h t with | some q => some ((pre.length : Int), q.1.1, q.1.2, q.2) | none => fplace w h t (pre.length + 1) ps) from rfl]
    clear e4 e hl
    cases hf : fon os s w h t with
    | none =>
      rw [hf] at e3 ih
      dsimp only
      rw [← ih]
      clear ih
      have hn : isNon .none = true := rfl
      walk_at "runh"
    | some q =>
      rw [hf] at e3
      clear ih
      have hn : isNon (trD q) = false := rfl
      have i0 := @ix_tr0
      have i1 := @ix_tr1
      have i2 := @ix_tr2
      walk_at "runh"
      rfl
theorem fplace_eq {x y : Xv} {w h : Int} {t : Bool} {S : List RS} {all : List (S3 × List O4)} (hx : IsL x (all.map fun r => shD r.1)) (hy : IsL y (all.map fun r => rowD r.2)) (hl : ∀ r ∈ all, r.2.length ≤ 900000) (hn : all.length ≤ 1000000) : m_first_place [x, y, .val (.int w), .val (.int h), .val (.bool t)] S = .ok (.val (optD plD (fplace w h t 0 all))) S := by
  obtain ⟨z5, z6, l⟩ := fp_loop (w := w) (h := h) (t := t) (S := S) all hx hy hl all [] none none rfl
  rw [List.length_nil, Int.natCast_zero] at l
  obtain ⟨h1, h2, h3, h4, h5⟩ := hx
  obtain ⟨g1, g2, g3, g4, g5⟩ := hy
  have e1 : (all.map fun r => shD r.1).length = all.length := List.length_map _
  have e2 : (-4611686018427387904 : Int) ≤ (all.length : Int) ∧ (all.length : Int) < 4611686018427387904 := by omega
  clear hl
  unfold m_first_place t_first_place
  walk_at "runh"
  rw [Int.toNat_natCast, rangeD_rg, l]
  cases fplace w h t 0 all with
  | none => show defK (seqK _ (.nx _ _)) = _; walk_at "run"
  | some k => rfl

/-- the law's own: inside and apart -/
def ap0 (p q : O4) : Bool := decide (p.1 + p.2.2.1 ≤ q.1) || decide (q.1 + q.2.2.1 ≤ p.1)
def ap1 (p q : O4) : Bool := decide (p.2.1 + p.2.2.2 ≤ q.2.1) || decide (q.2.1 + q.2.2.2 ≤ p.2.1)
theorem apart0_eq {p q : O4} {S : List RS} : m__law_apart [.val (oD p), .val (oD q), .val (.int 0)] S = .ok (.val (.bool (ap0 p q))) S := by
  unfold m__law_apart t__law_apart ap0 oD
  walk_at "run"
theorem apart1_eq {p q : O4} {S : List RS} : m__law_apart [.val (oD p), .val (oD q), .val (.int 1)] S = .ok (.val (.bool (ap1 p q))) S := by
  unfold m__law_apart t__law_apart ap1 oD
  walk_at "run"
theorem good_loop {a w h : Option Xv} {o : O4} {S : List RS} : ∀ (os : List O4) (y : Option Xv), ∃ y', loopS (gN 4) L1__law_good (os.map oD) [a, some (.val (oD o)), w, h, y] S = (if os.all (fun p => ap0 o p || ap1 o p) then .nx [a, some (.val (oD o)), w, h, y'] S else .rt (.val (.bool false)) S)
  | [], y => ⟨y, rfl⟩
  | p :: ps, y => by
    obtain ⟨z, ih⟩ := good_loop (a := a) (w := w) (h := h) (o := o) (S := S) ps (some (.val (oD p)))
    refine ⟨z, ?_⟩
    have hb := fun τ S => congrFun (congrFun L1__law_good.eq_1 τ) S
    have e0 := @apart0_eq o p
    have e1 := @apart1_eq o p
    rw [List.map_cons, loop_consN rfl, List.all_cons]
    cases h0 : ap0 o p <;> cases h1 : ap1 o p
    · rw [h0] at e0
      rw [h1] at e1
      clear ih h0 h1
      walk_at "runh"
      rfl
    · rw [show ((false || true) && ps.all fun p => ap0 o p || ap1 o p) = ps.all (fun p => ap0 o p || ap1 o p) from rfl, ← ih]
      rw [h0] at e0
      rw [h1] at e1
      clear ih h0 h1
      walk_at "runh"
    · rw [show ((true || false) && ps.all fun p => ap0 o p || ap1 o p) = ps.all (fun p => ap0 o p || ap1 o p) from rfl, ← ih]
      rw [h0] at e0
      rw [h1] at e1
      clear ih h0 h1
      walk_at "runh"
    · rw [show ((true || true) && ps.all fun p => ap0 o p || ap1 o p) = ps.all (fun p => ap0 o p || ap1 o p) from rfl, ← ih]
      rw [h0] at e0
      rw [h1] at e1
      clear ih h0 h1
      walk_at "runh"
theorem good_eq {x : Xv} {os : List O4} {o : O4} {w h : Int} {S : List RS} (hx : IsL x (os.map oD)) : m__law_good [x, .val (oD o), .val (.int w), .val (.int h)] S = .ok (.val (.bool (fitO os o w h))) S := by
  have k : fitO os o w h = (!(decide (o.1 < 0) || (decide (o.2.1 < 0) || (decide (w < o.1 + o.2.2.1) || decide (h < o.2.1 + o.2.2.2)))) && os.all (fun p => ap0 o p || ap1 o p)) := by
    rw [Bool.eq_iff_iff, fitO_iff]
    unfold Fit InS
    simp only [Bool.and_eq_true, Bool.not_eq_true', Bool.or_eq_false_iff, decide_eq_false_iff_not, List.all_eq_true]
    refine and_congr (by omega) (forall_congr' fun p => imp_congr_right fun _ => ?_)
    unfold Apart ap0 ap1
    simp only [Bool.or_eq_true, decide_eq_true_eq]
    omega
  obtain ⟨z, l⟩ := good_loop (a := some x) (w := some (.val (.int w))) (h := some (.val (.int h))) (o := o) (S := S) os none
  obtain ⟨h1, h2, h3, h4, h5⟩ := hx
  rw [k]
  clear k
  unfold m__law_good t__law_good
  walk_at "runh"
  cases (decide (o.1 < 0) || (decide (o.2.1 < 0) || (decide (w < o.1 + o.2.2.1) || decide (h < o.2.1 + o.2.2.2)))) with
  | true => walk_at "runh"
  | false =>
    walk_at "runh"
    cases os.all (fun p => ap0 o p || ap1 o p) with
    | true => rw [if_pos rfl]; walk_at "run"
    | false => rw [if_neg Bool.false_ne_true]; walk_at "run"

def spotsL (s : S3) : List (Int × Int) := (ir 0 (s.1 * s.2.1).toNat).map fun k => if s.2.2 then (k % s.2.1, k / s.2.1) else (k / s.1, k % s.1)
theorem spots_eq {s : S3} {S : List RS} (h : 1 ≤ s.1 ∧ s.1 ≤ 1000) (h' : 1 ≤ s.2.1 ∧ s.2.1 ≤ 1000) : m__law_spots [.val (shD s)] S = .ok (.own ((spotsL s).map spD)) S := by
  obtain ⟨a, b, c⟩ := s
  dsimp only at h h'
  have h0 : 0 ≤ a * b := Int.mul_nonneg (by omega) (by omega)
  have h1 : a * b ≤ 1000 * 1000 := Int.mul_le_mul h.2 h'.2 (by omega) (by omega)
  have hm : -4611686018427387904 ≤ a * b ∧ a * b < 4611686018427387904 := by omega
  unfold m__law_spots t__law_spots spotsL
  cases c with
  | false =>
    have cc : compS 1 tTrue CE1__law_spots [some (.val (shD (a, b, false))), none] (rangeD 0 (a * b).toNat) [] S = .ok ([] ++ (ir 0 (a * b).toNat).map fun k => spD (k / a, k % a)) S := by
      rw [rangeD_rg, rg_ir]
      refine comp_mapE .int _ (fun a _ => rfl) (fun k hk => ?_) [] (by rw [ir_length]; simp; omega)
      unfold CE1__law_spots
      walk_at "runh"
      rfl
    walk_at "runh"
    rw [List.map_map]
    rfl
  | true =>
    have cc : compS 1 tTrue CE2__law_spots [some (.val (shD (a, b, true))), none] (rangeD 0 (a * b).toNat) [] S = .ok ([] ++ (ir 0 (a * b).toNat).map fun k => spD (k % b, k / b)) S := by
      rw [rangeD_rg, rg_ir]
      refine comp_mapE .int _ (fun a _ => rfl) (fun k hk => ?_) [] (by rw [ir_length]; simp; omega)
      unfold CE2__law_spots
      walk_at "runh"
      rfl
    walk_at "runh"
    rw [List.map_map]
    rfl
theorem mem_divmod {a b u l : Int} (ha : 0 < a) (hu : 0 ≤ u ∧ u < b) (hl : 0 ≤ l ∧ l < a) : u * a + l ∈ ir 0 (a * b).toNat ∧ (u * a + l) / a = u ∧ (u * a + l) % a = l := by
  have e1 : (u * a + l) / a = u := by
    rw [Int.add_comm, Int.add_mul_ediv_right _ _ (by omega), Int.ediv_eq_zero_of_lt hl.1 hl.2]
    omega
  have e2 : (u * a + l) % a = l := by
    rw [Int.add_comm, Int.add_mul_emod_self_right, Int.emod_eq_of_lt hl.1 hl.2]
  refine ⟨?_, e1, e2⟩
  rw [mem_ir]
  have h1 : 0 ≤ u * a := Int.mul_nonneg hu.1 (by omega)
  have h2 : (u + 1) * a ≤ b * a := Int.mul_le_mul_of_nonneg_right (by omega) (by omega)
  rw [Int.add_mul, Int.one_mul, Int.mul_comm b a] at h2
  omega
theorem spotsL_pw {s : S3} (h : 1 ≤ s.1) (h' : 1 ≤ s.2.1) : (spotsL s).Pairwise (leH s.2.2) := by
  unfold spotsL
  rw [List.pairwise_map]
  have : (ir 0 (s.1 * s.2.1).toNat).Pairwise fun a b => a < b := by
    rw [List.pairwise_iff_getElem]
    intro i j hi hj hij
    rw [ir_length] at hi hj
    have g1 := ir_get 0 (s.1 * s.2.1).toNat i hi
    have g2 := ir_get 0 (s.1 * s.2.1).toNat j hj
    rw [List.getElem?_eq_getElem (by rw [ir_length]; exact hi)] at g1
    rw [List.getElem?_eq_getElem (by rw [ir_length]; exact hj)] at g2
    injection g1 with g1
    injection g2 with g2
    rw [g1, g2]
    omega
  refine this.imp ?_
  intro x y hxy
  have key : ∀ d : Int, 0 < d → x / d < y / d ∨ (x / d = y / d ∧ x % d ≤ y % d) := by
    intro d hd
    have h1 : x / d ≤ y / d := Int.ediv_le_ediv hd (by omega)
    by_cases e : x / d = y / d
    · right
      refine ⟨e, ?_⟩
      have g1 := Int.mul_ediv_add_emod x d
      have g2 := Int.mul_ediv_add_emod y d
      rw [e] at g1
      omega
    · left; omega
  unfold leH
  cases s.2.2 with
  | false =>
    rw [if_neg Bool.false_ne_true, if_neg Bool.false_ne_true, if_neg Bool.false_ne_true]
    exact key s.1 (by omega)
  | true =>
    rw [if_pos rfl, if_pos rfl, if_pos rfl]
    exact key s.2.1 (by omega)
theorem spots_first {s : S3} (h : 1 ≤ s.1) (h' : 1 ≤ s.2.1) {os : List O4} {z : Int × Int} (hz : 1 ≤ z.1 ∧ 1 ≤ z.2) : FirstS s.2.2 (fun q => Fit os (atS q z) s.1 s.2.1) ((spotsL s).find? fun q => fitO os (atS q z) s.1 s.2.1) := by
  have hin : ∀ q : Int × Int, Fit os (atS q z) s.1 s.2.1 → 0 ≤ q.1 ∧ q.1 < s.2.1 ∧ 0 ≤ q.2 ∧ q.2 < s.1 := by
    intro q hq
    obtain ⟨⟨h1, h2, h3, h4⟩, _⟩ := hq
    unfold atS at *
    dsimp only at *
    omega
  have hw := spotsL_pw h h'
  have hm : ∀ q : Int × Int, Fit os (atS q z) s.1 s.2.1 → q ∈ spotsL s := by
    intro q hq
    obtain ⟨h1, h2, h3, h4⟩ := hin q hq
    unfold spotsL
    rw [List.mem_map]
    cases s.2.2 with
    | false =>
      obtain ⟨g1, g2, g3⟩ := mem_divmod (a := s.1) (by omega) ⟨h1, h2⟩ ⟨h3, h4⟩
      exact ⟨_, g1, by rw [if_neg Bool.false_ne_true, g2, g3]⟩
    | true =>
      obtain ⟨g1, g2, g3⟩ := mem_divmod (a := s.2.1) (by omega) ⟨h3, h4⟩ ⟨h1, h2⟩
      rw [Int.mul_comm s.2.1 s.1] at g1
      exact ⟨_, g1, by rw [if_pos rfl, g2, g3]⟩
  cases hf : (spotsL s).find? fun q => fitO os (atS q z) s.1 s.2.1 with
  | none =>
    rw [List.find?_eq_none] at hf
    exact fun q hq => hf q (hm q hq) (fitO_iff.mpr hq)
  | some q =>
    refine ⟨fitO_iff.mp (List.find?_some (p := fun q => fitO os (atS q z) s.1 s.2.1) hf), fun q' hq' => ?_⟩
    have hm' := hm q' hq'
    clear hm hin
    generalize spotsL s = l at hf hm' hw
    induction l with
    | nil => cases hm'
    | cons x xs ih =>
      rw [List.pairwise_cons] at hw
      rw [List.find?_cons] at hf
      cases hp : fitO os (atS x z) s.1 s.2.1 with
      | true =>
        rw [hp] at hf
        injection hf with hf
        subst hf
        rcases List.mem_cons.mp hm' with rfl | hm'
        · exact leH_of_le (Int.le_refl _) (Int.le_refl _)
        · exact hw.1 q' hm'
      | false =>
        rw [hp] at hf
        rcases List.mem_cons.mp hm' with rfl | hm'
        · rw [fitO_iff.mpr hq'] at hp
          cases hp
        · exact ih hf hm' hw.2

theorem pick_hab {x : Int} : atI [PyData.str "low", .str "left"] (x % 2) = some (.str (hab (x % 2 == 1))) := by
  have h : x % 2 = 0 ∨ x % 2 = 1 := by omega
  rcases h with h | h <;> (rw [h]; rfl)

theorem whole_int {i : Int} {S : List RS} : m__law_whole [.val (.int i)] S = .ok (.val (.bool true)) S := by
  unfold m__law_whole t__law_whole
  walk_at "run"
def small (s : S3) : Prop := (1 ≤ s.1 ∧ s.1 ≤ 1000) ∧ (1 ≤ s.2.1 ∧ s.2.1 ≤ 1000)
theorem shelves_loop {ns : List Int} {S : List RS} : ∀ (n : Nat) (i : Int) (acc : List S3) (y2 y3 : Option Xv), 0 ≤ i → acc.length + n ≤ 100 → (∀ s ∈ acc, small s) →
    ∃ (ss : List S3) (y2' y3' : Option Xv), (∀ s ∈ ss, small s) ∧ ss.length = acc.length + n ∧ loopS (gN 2) L2__law_shelves (rg i n) [some (.scr ns), some (.own (acc.map shD)), y2, y3] S = .nx [some (.scr ns), some (.own (ss.map shD)), y2', y3'] S
  | 0, i, acc, y2, y3, _, _, ha => ⟨acc, y2, y3, ha, rfl, rfl⟩
  | n + 1, i, acc, y2, y3, hi, hl, ha => by
    have e1 := @cell_eq
    have e2 := @pick_hab
    have hb := fun τ S => congrFun (congrFun L2__law_shelves.eq_1 τ) S
    have i3 : 0 ≤ 3 + i := by omega
    obtain ⟨d, hd⟩ : ∃ d, d = (cell ns (3 + i) * 48271 + 11) % 2147483647 := ⟨_, rfl⟩
    obtain ⟨s, hs⟩ : ∃ s : S3, s = (1 + d % 6, 1 + d / 6 % 6, d / 36 % 2 == 1) := ⟨_, rfl⟩
    have s1 : small s := by
      rw [hs]
      unfold small
      dsimp only
      omega
    obtain ⟨ss, z2, z3, g1, g2, ih⟩ := shelves_loop (ns := ns) (S := S) n (i + 1) (acc ++ [s]) (some (.val (.int i))) (some (.val (.int d))) (by omega) (by rw [List.length_append, List.length_singleton]; omega) (fun x hx => by
      rcases List.mem_append.mp hx with hx | hx
      · exact ha x hx
      · rw [List.mem_singleton.mp hx]; exact s1)
    rw [List.length_append, List.length_singleton] at g2
    refine ⟨ss, z2, z3, g1, by omega, ?_⟩
    have e3 : (acc.map shD).length < 16777216 := by rw [List.length_map]; omega
    rw [List.map_append] at ih
    rw [← ih]
    clear hl ih ha g2
    show loopS (gN 2) L2__law_shelves (.int i :: rg (i + 1) n) _ S = _
    rw [loop_consN rfl, show [s].map shD = [shD s] from rfl]
    generalize acc.map shD = L at e3 ⊢
    rw [hs]
    unfold shD
    dsimp only
    rw [hd]
    clear hd hs s1
    walk_at "runh"
theorem shelves_eq {ns : List Int} {S : List RS} : ∃ ss : List S3, (∀ s ∈ ss, small s) ∧ ss.length ≤ 9 ∧ m__law_shelves [.scr ns] S = .ok (.own (ss.map shD)) S := by
  have e1 := @cell_eq
  have e2 := @pick_hab
  have m1 : 0 ≤ cell ns 1 % 7 ∧ cell ns 1 % 7 < 7 := by omega
  have m2 : 1 ≤ 1 + cell ns 2 % 3 ∧ 1 + cell ns 2 % 3 ≤ 3 := by omega
  have cc : compS 2 tTrue CE1__law_shelves [some (.scr ns), none, none, none] (rangeD 0 (cell ns 1 % 7).toNat) [] S = .ok ([] ++ (ir 0 (cell ns 1 % 7).toNat).map fun k => shD (1, 1, k % 2 == 1)) S := by
    rw [rangeD_rg, rg_ir]
    refine comp_mapE .int _ (fun a _ => rfl) (fun k hk => ?_) [] (by rw [ir_length]; simp; omega)
    unfold CE1__law_shelves shD
    walk_at "runh"
  obtain ⟨ss, z2, z3, g1, g2, l⟩ := shelves_loop (ns := ns) (S := S) (1 + cell ns 2 % 3).toNat 0 ((ir 0 (cell ns 1 % 7).toNat).map fun k => (1, 1, k % 2 == 1)) none none (by decide) (by rw [List.length_map, ir_length]; omega) (fun s hs => by
    obtain ⟨k, _, rfl⟩ := List.mem_map.mp hs
    unfold small
    dsimp only
    omega)
  rw [List.length_map, ir_length] at g2
  refine ⟨ss, g1, by omega, ?_⟩
  rw [List.nil_append] at cc
  rw [List.map_map, ← rangeD_rg] at l
  rw [show ((ir 0 (cell ns 1 % 7).toNat).map (shD ∘ fun k => (1, 1, k % 2 == 1))) = ((ir 0 (cell ns 1 % 7).toNat).map fun k => shD (1, 1, k % 2 == 1)) from rfl] at l
  generalize ((ir 0 (cell ns 1 % 7).toNat).map fun k => shD (1, 1, k % 2 == 1)) = L at l cc
  unfold m__law_shelves t__law_shelves
  clear g2
  walk_at "runh"
theorem rows_loop1 {ns : List Int} {a1 a2 a3 a4 a7 : Option Xv} {S : List RS} : ∀ (n : Nat) (i d : Int) (acc : List O4) (y8 : Option Xv), 0 ≤ i → acc.length + n ≤ 100 →
    ∃ (d' : Int) (os : List O4) (y8' : Option Xv), os.length = acc.length + n ∧ loopS (gN 8) L1__law_rows (rg i n) [some (.scr ns), a1, a2, a3, a4, some (.own (acc.map oD)), some (.val (.int d)), a7, y8] S = .nx [some (.scr ns), a1, a2, a3, a4, some (.own (os.map oD)), some (.val (.int d')), a7, y8'] S
  | 0, i, d, acc, y8, _, _ => ⟨d, acc, y8, rfl, rfl⟩
  | n + 1, i, d, acc, y8, hi, hl => by
    have e1 := @cell_eq
    have hb := fun τ S => congrFun (congrFun L1__law_rows.eq_1 τ) S
    have i3 : 0 ≤ 25 + i := by omega
    obtain ⟨e, he⟩ : ∃ e, e = (d * 48271 + cell ns (25 + i)) % 2147483647 := ⟨_, rfl⟩
    obtain ⟨o, ho⟩ : ∃ o : O4, o = (e % 8 - 2, e / 8 % 8 - 2, 1 + e / 64 % 4, 1 + e / 256 % 4) := ⟨_, rfl⟩
    obtain ⟨d', os, z8, g2, ih⟩ := rows_loop1 (ns := ns) (a1 := a1) (a2 := a2) (a3 := a3) (a4 := a4) (a7 := a7) (S := S) n (i + 1) e (acc ++ [o]) (some (.val (.int i))) (by omega) (by rw [List.length_append, List.length_singleton]; omega)
    rw [List.length_append, List.length_singleton] at g2
    refine ⟨d', os, z8, by omega, ?_⟩
    have e3 : (acc.map oD).length < 16777216 := by rw [List.length_map]; omega
    rw [List.map_append] at ih
    rw [← ih]
    clear hl ih g2
    show loopS (gN 8) L1__law_rows (.int i :: rg (i + 1) n) _ S = _
    rw [loop_consN rfl, show [o].map oD = [oD o] from rfl]
    generalize acc.map oD = L at e3 ⊢
    rw [ho]
    unfold oD
    dsimp only
    rw [he]
    clear ho he
    walk_at "runh"
theorem rows_step {ns : List Int} {k bare : Int} {acc : List (List O4)} {a1 y5 y6 y7 y8 : Option Xv} {S : List RS} (hk : 0 ≤ k) (hl : acc.length ≤ 100) : ∃ (os : List O4) (y5' y6' y7' y8' : Option Xv), os.length ≤ 100 ∧ L2__law_rows [some (.scr ns), a1, some (.val (.int bare)), some (.own (acc.map rowD)), some (.val (.int k)), y5, y6, y7, y8] S = .nx [some (.scr ns), a1, some (.val (.int bare)), some (.own (acc.map rowD ++ [rowD os])), some (.val (.int k)), y5', y6', y7', y8'] S := by
  have e1 := @cell_eq
  have e3 : (acc.map rowD).length < 16777216 := by rw [List.length_map]; omega
  have k7 : 0 ≤ 7 + k := by omega
  have k16 : 0 ≤ 16 + k := by omega
  cases hb : decide (bare ≤ k) with
  | false =>
    refine ⟨[], some (.val (.list [])), y6, y7, y8, by decide, ?_⟩
    unfold L2__law_rows
    generalize acc.map rowD = L at e3 ⊢
    rw [show rowD [] = .list [] from rfl]
    clear hk hl k7 k16
    walk_at "runh"
  | true =>
    have fin : ∀ m : Int, 0 ≤ m → m ≤ 20 → ∃ (os : List O4) (d' : Int) (y8' : Option Xv), os.length ≤ 100 ∧ ∀ z5, z5 = some (.own []) → loopS (gN 8) L1__law_rows (rangeD 0 m.toNat) [some (.scr ns), a1, some (.val (.int bare)), some (.own (acc.map rowD)), some (.val (.int k)), z5, some (.val (.int (cell ns (7 + k) % 2147483647))), some (.val (.int m)), y8] S = .nx [some (.scr ns), a1, some (.val (.int bare)), some (.own (acc.map rowD)), some (.val (.int k)), some (.own (os.map oD)), some (.val (.int d')), some (.val (.int m)), y8'] S := by
      intro m m0 m1
      obtain ⟨d', os, y8', g1, g2⟩ := rows_loop1 (ns := ns) (a1 := a1) (a2 := some (.val (.int bare))) (a3 := some (.own (acc.map rowD))) (a4 := some (.val (.int k))) (a7 := some (.val (.int m))) (S := S) m.toNat 0 (cell ns (7 + k) % 2147483647) [] y8 (by decide) (by simp; omega)
      refine ⟨os, d', y8', by rw [g1]; simp; omega, fun z5 hz => ?_⟩
      rw [hz, rangeD_rg]
      exact g2
    cases hc : cell ns (16 + k) / 5 % 6 == 1 with
    | false =>
      have m0 : 0 ≤ cell ns (16 + k) % 5 := by omega
      have m1 : cell ns (16 + k) % 5 ≤ 20 := by omega
      obtain ⟨os, d', y8', g1, l⟩ := fin _ m0 m1
      refine ⟨os, some (.val (rowD os)), some (.val (.int d')), some (.val (.int (cell ns (16 + k) % 5))), y8', g1, ?_⟩
      have l := l _ rfl
      unfold L2__law_rows
      generalize acc.map rowD = L at e3 l ⊢
      unfold rowD
      clear hk hl fin
      walk_at "runh"
    | true =>
      have m0 : 0 ≤ 5 + cell ns (16 + k) / 30 % 12 := by omega
      have m1 : 5 + cell ns (16 + k) / 30 % 12 ≤ 20 := by omega
      obtain ⟨os, d', y8', g1, l⟩ := fin _ m0 m1
      refine ⟨os, some (.val (rowD os)), some (.val (.int d')), some (.val (.int (5 + cell ns (16 + k) / 30 % 12))), y8', g1, ?_⟩
      have l := l _ rfl
      have h2 : -4611686018427387904 ≤ 5 + cell ns (16 + k) / 30 % 12 ∧ 5 + cell ns (16 + k) / 30 % 12 < 4611686018427387904 := by omega
      unfold L2__law_rows
      generalize acc.map rowD = L at e3 l ⊢
      unfold rowD
      clear hk hl fin
      walk_at "runh"
theorem rows_loop2 {ns : List Int} {bare : Int} {a1 : Option Xv} {S : List RS} : ∀ (n : Nat) (i : Int) (acc : List (List O4)) (y4 y5 y6 y7 y8 : Option Xv), 0 ≤ i → acc.length + n ≤ 100 → (∀ os ∈ acc, os.length ≤ 100) →
    ∃ (rs : List (List O4)) (z4 z5 z6 z7 z8 : Option Xv), (∀ os ∈ rs, os.length ≤ 100) ∧ rs.length = acc.length + n ∧ loopS (gN 4) L2__law_rows (rg i n) [some (.scr ns), a1, some (.val (.int bare)), some (.own (acc.map rowD)), y4, y5, y6, y7, y8] S = .nx [some (.scr ns), a1, some (.val (.int bare)), some (.own (rs.map rowD)), z4, z5, z6, z7, z8] S
  | 0, i, acc, y4, y5, y6, y7, y8, _, _, ha => ⟨acc, y4, y5, y6, y7, y8, ha, rfl, rfl⟩
  | n + 1, i, acc, y4, y5, y6, y7, y8, hi, hl, ha => by
    obtain ⟨os, w5, w6, w7, w8, g1, st⟩ := rows_step (ns := ns) (k := i) (bare := bare) (acc := acc) (a1 := a1) (y5 := y5) (y6 := y6) (y7 := y7) (y8 := y8) (S := S) hi (by omega)
    obtain ⟨rs, z4, z5, z6, z7, z8, g2, g3, ih⟩ := rows_loop2 (ns := ns) (bare := bare) (a1 := a1) (S := S) n (i + 1) (acc ++ [os]) (some (.val (.int i))) w5 w6 w7 w8 (by omega) (by rw [List.length_append, List.length_singleton]; omega) (fun x hx => by
      rcases List.mem_append.mp hx with hx | hx
      · exact ha x hx
      · rw [List.mem_singleton.mp hx]; exact g1)
    rw [List.length_append, List.length_singleton] at g3
    refine ⟨rs, z4, z5, z6, z7, z8, g2, by omega, ?_⟩
    show loopS (gN 4) L2__law_rows (.int i :: rg (i + 1) n) _ S = _
    rw [loop_consN rfl]
    simp only [List.set_cons_zero, List.set_cons_succ]
    rw [st, loopK_nx, ← ih, List.map_append]
    rfl
theorem rows_eq {ns : List Int} {bare : Int} {ss : List S3} {S : List RS} (hl : ss.length ≤ 9) : ∃ rs : List (List O4), (∀ os ∈ rs, os.length ≤ 100) ∧ rs.length = ss.length ∧ m__law_rows [.scr ns, .val (.list (ss.map shD)), .val (.int bare)] S = .ok (.own (rs.map rowD)) S := by
  obtain ⟨rs, z4, z5, z6, z7, z8, g1, g2, l⟩ := rows_loop2 (ns := ns) (bare := bare) (a1 := some (.val (.list (ss.map shD)))) (S := S) ss.length 0 [] none none none none none (by decide) (by simp; omega) (fun _ h => absurd h List.not_mem_nil)
  rw [List.length_nil, Nat.zero_add] at g2
  rw [List.map_nil] at l
  refine ⟨rs, g1, g2, ?_⟩
  have e1 : (ss.map shD).length = ss.length := List.length_map _
  have e2 : (-4611686018427387904 : Int) ≤ (ss.length : Int) ∧ (ss.length : Int) < 4611686018427387904 := by omega
  clear g1 g2
  unfold m__law_rows t__law_rows
  walk_at "runh"
  rw [Int.toNat_natCast, rangeD_rg, l]
  walk_at "run"
theorem due_in {os : List O4} {s : S3} {w h k : Int} {t : Bool} {a0 a1 : Option Xv} {S : List RS} : ∀ (qs : List (Int × Int)) (y8 y9 y10 : Option Xv),
    ∃ τ', (duo (fun q => fitO os (atS q (w, h)) s.1 s.2.1) (fun q => t && fitO os (atS q (h, w)) s.1 s.2.1) qs = none → ∃ z8 z9 z10, τ' = [a0, a1, some (.val (.int w)), some (.val (.int h)), some (.val (.bool t)), some (.val (.int k)), some (.val (shD s)), some (.val (.list (os.map oD))), z8, z9, z10]) ∧ loopS (gN 8) L1__law_due (qs.map spD) [a0, a1, some (.val (.int w)), some (.val (.int h)), some (.val (.bool t)), some (.val (.int k)), some (.val (shD s)), some (.val (.list (os.map oD))), y8, y9, y10] S = OS.opt ((duo (fun q => fitO os (atS q (w, h)) s.1 s.2.1) (fun q => t && fitO os (atS q (h, w)) s.1 s.2.1) qs).map fun r => plD (k, r.1.1, r.1.2, r.2)) τ' S
  | [], y8, y9, y10 => ⟨_, fun _ => ⟨y8, y9, y10, rfl⟩, rfl⟩
  | q :: qs, y8, y9, y10 => by
    obtain ⟨τ', g1, ih⟩ := due_in (os := os) (s := s) (w := w) (h := h) (k := k) (t := t) (a0 := a0) (a1 := a1) (S := S) qs (some (.val (spD q))) (some (.val (.tuple [.int q.2, .int q.1, .int w, .int h]))) (some (.val (.tuple [.int q.2, .int q.1, .int h, .int w])))
    have hb := fun τ S => congrFun (congrFun L1__law_due.eq_1 τ) S
    have e1 : ∀ S, m__law_good [.val (.list (os.map oD)), .val (.tuple [.int q.2, .int q.1, .int w, .int h]), .val (.int s.1), .val (.int s.2.1)] S = .ok (.val (.bool (fitO os (atS q (w, h)) s.1 s.2.1))) S := fun S => good_eq (o := (q.2, q.1, w, h)) (isL_val _)
    have e2 : ∀ S, m__law_good [.val (.list (os.map oD)), .val (.tuple [.int q.2, .int q.1, .int h, .int w]), .val (.int s.1), .val (.int s.2.1)] S = .ok (.val (.bool (fitO os (atS q (h, w)) s.1 s.2.1))) S := fun S => good_eq (o := (q.2, q.1, h, w)) (isL_val _)
    refine ⟨τ', ?_⟩
    unfold duo
    rw [List.map_cons, loop_consN rfl]
    cases h0 : fitO os (atS q (w, h)) s.1 s.2.1 with
    | true =>
      rw [if_pos rfl]
      rw [h0] at e1
      refine ⟨(fun h => by cases h), ?_⟩
      clear ih g1 h0
      walk_at "runh"
      rfl
    | false =>
      rw [if_neg Bool.false_ne_true]
      rw [h0] at e1
      clear h0
      cases h1 : fitO os (atS q (h, w)) s.1 s.2.1 with
      | false =>
        rw [Bool.and_false, if_neg Bool.false_ne_true]
        rw [h1] at e2
        refine ⟨g1, ?_⟩
        rw [← ih]
        clear ih g1 h1
        cases t <;> walk_at "runh"
      | true =>
        rw [Bool.and_true]
        rw [h1] at e2
        cases t with
        | false =>
          rw [if_neg Bool.false_ne_true]
          refine ⟨g1, ?_⟩
          rw [← ih]
          clear ih g1 h1
          walk_at "runh"
        | true =>
          rw [if_pos rfl]
          refine ⟨(fun h => by cases h), ?_⟩
          clear ih g1 h1
          walk_at "runh"
          rfl
def ldue (w h : Int) (t : Bool) (i : Int) : List (S3 × List O4) → Option P4
  | [] => none
  | (s, os) :: r => match duo (fun q => fitO os (atS q (w, h)) s.1 s.2.1) (fun q => t && fitO os (atS q (h, w)) s.1 s.2.1) (spotsL s) with
    | some q => some (i, q.1.1, q.1.2, q.2)
    | none => ldue w h t (i + 1) r
theorem due_loop {x y : Xv} {w h : Int} {t : Bool} {S : List RS} (all : List (S3 × List O4)) (hx : IsL x (all.map fun r => shD r.1)) (hy : IsL y (all.map fun r => rowD r.2)) (hs : ∀ r ∈ all, small r.1) : ∀ (ps pre : List (S3 × List O4)) (z5 z6 z7 z8 z9 z10 : Option Xv), all = pre ++ ps →
    ∃ τ', loopS (gN 5) L2__law_due (rg pre.length ps.length) [some x, some y, some (.val (.int w)), some (.val (.int h)), some (.val (.bool t)), z5, z6, z7, z8, z9, z10] S = OS.opt ((ldue w h t pre.length ps).map plD) τ' S
  | [], pre, z5, z6, z7, z8, z9, z10, e => ⟨_, rfl⟩
  | (s, os) :: ps, pre, z5, z6, z7, z8, z9, z10, e => by
    have e1 : atI (all.map fun r => shD r.1) (pre.length : Int) = some (shD s) := by rw [e, atI_map, atI_front]; rfl
    have e2 : atI (all.map fun r => rowD r.2) (pre.length : Int) = some (.list (os.map oD)) := by rw [e, atI_map, atI_front]; rfl
    have hso : small s := hs (s, os) (by rw [e]; simp)
    have e3 : ∀ S, m__law_spots [.val (shD s)] S = .ok (.own ((spotsL s).map spD)) S := fun S => spots_eq hso.1 hso.2
    obtain ⟨τ1, g1, l1⟩ := due_in (os := os) (s := s) (w := w) (h := h) (k := pre.length) (t := t) (a0 := some x) (a1 := some y) (S := S) (spotsL s) z8 z9 z10
    have st : L2__law_due [some x, some y, some (.val (.int w)), some (.val (.int h)), some (.val (.bool t)), some (.val (.int pre.length)), z6, z7, z8, z9, z10] S = OS.opt ((duo (fun q => fitO os (atS q (w, h)) s.1 s.2.1) (fun q => t && fitO os (atS q (h, w)) s.1 s.2.1) (spotsL s)).map fun r => plD (pre.length, r.1.1, r.1.2, r.2)) τ1 S := by
      obtain ⟨h1, h2, h3, h4, h5⟩ := hx
      obtain ⟨g1, g2, g3, g4, g5⟩ := hy
      rw [← l1]
      unfold L2__law_due
      clear l1 e hs hso
      walk_at "runh"
    show ∃ τ', loopS (gN 5) L2__law_due (.int pre.length :: rg (pre.length + 1) ps.length) _ S = _
    rw [loop_consN rfl]
    simp only [List.set_cons_zero, List.set_cons_succ]
    rw [st]
    unfold ldue
    cases hd : duo (fun q => fitO os (atS q (w, h)) s.1 s.2.1) (fun q => t && fitO os (atS q (h, w)) s.1 s.2.1) (spotsL s) with
    | some r => exact ⟨[], rfl⟩
    | none =>
      obtain ⟨y8, y9, y10, rfl⟩ := g1 hd
      obtain ⟨τ', ih⟩ := due_loop (w := w) (h := h) (t := t) (S := S) all hx hy hs ps (pre ++ [(s, os)]) (some (.val (.int pre.length))) (some (.val (shD s))) (some (.val (.list (os.map oD)))) y8 y9 y10 (by rw [e]; simp)
      rw [List.length_append, List.length_singleton] at ih
      have e4 : ((pre.length + 1 : Nat) : Int) = (pre.length : Int) + 1 := by omega
      rw [e4] at ih
      exact ⟨τ', ih⟩
theorem due_eq {x y : Xv} {w h : Int} {t : Bool} {S : List RS} {all : List (S3 × List O4)} (hx : IsL x (all.map fun r => shD r.1)) (hy : IsL y (all.map fun r => rowD r.2)) (hs : ∀ r ∈ all, small r.1) (hn : all.length ≤ 1000000) : m__law_due [x, y, .val (.int w), .val (.int h), .val (.bool t)] S = .ok (.val (optD plD (ldue w h t 0 all))) S := by
  obtain ⟨τ', l⟩ := due_loop (w := w) (h := h) (t := t) (S := S) all hx hy hs all [] none none none none none none rfl
  rw [List.length_nil, Int.natCast_zero] at l
  obtain ⟨h1, h2, h3, h4, h5⟩ := hx
  obtain ⟨g1, g2, g3, g4, g5⟩ := hy
  have e1 : (all.map fun r => shD r.1).length = all.length := List.length_map _
  have e2 : (-4611686018427387904 : Int) ≤ (all.length : Int) ∧ (all.length : Int) < 4611686018427387904 := by omega
  clear hs
  unfold m__law_due t__law_due
  walk_at "runh"
  rw [Int.toNat_natCast, rangeD_rg, l]
  cases ldue w h t 0 all with
  | none => show defK (seqK _ (.nx _ _)) = _; walk_at "run"
  | some k => rfl
def scS3 (t : Int) (s : S3) : S3 := (s.1 * t, s.2.1 * t, s.2.2)
def scP (t : Int) (p : P4) : P4 := (p.1, p.2.1 * t, p.2.2.1 * t, p.2.2.2)
theorem fon_sc {t w h : Int} {b : Bool} {s : S3} {os : List O4} (ht : 0 < t) (hs : small s) (hw : 1 ≤ w) (hh : 1 ≤ h) : fon (os.map (scO t t)) (scS3 t s) (w * t) (h * t) b = (duo (fun q => fitO os (atS q (w, h)) s.1 s.2.1) (fun q => b && fitO os (atS q (h, w)) s.1 s.2.1) (spotsL s)).map fun r => (scS t t r.1, r.2) := by
  rw [duo_comb (spotsL_pw hs.1.1 hs.2.1), ← comb_sc ht ht]
  unfold fon
  have k : ∀ w h : Int, 1 ≤ w → 1 ≤ h → fspot (os.map (scO t t)) (scS3 t s) (w * t) (h * t) = ((spotsL s).find? fun q => fitO os (atS q (w, h)) s.1 s.2.1).map (scS t t) := fun w h hw hh =>
    first_unique (fspot_first _ (scS3 t s) _ _) (first_sc (H := s.2.1) ht ht (spots_first (s := s) hs.1.1 hs.2.1 (os := os) (z := (w, h)) ⟨hw, hh⟩))
  rw [k w h hw hh]
  cases b with
  | true =>
    rw [if_pos rfl, k h w hh hw]
    rfl
  | false =>
    rw [if_neg Bool.false_ne_true, show (spotsL s).find? (fun q => false && fitO os (atS q (h, w)) s.1 s.2.1) = none from by
      rw [List.find?_eq_none]
      intro x _ h
      cases h]
    rfl
theorem place_sc {t w h : Int} {b : Bool} (ht : 0 < t) (hw : 1 ≤ w) (hh : 1 ≤ h) : ∀ (all : List (S3 × List O4)) (i : Int), (∀ r ∈ all, small r.1) → fplace (w * t) (h * t) b i (all.map fun r => (scS3 t r.1, r.2.map (scO t t))) = (ldue w h b i all).map (scP t)
  | [], i, _ => rfl
  | (s, os) :: r, i, hs => by
    rw [List.map_cons]
    unfold fplace ldue
    rw [fon_sc ht (hs (s, os) List.mem_cons_self) hw hh]
    cases duo (fun q => fitO os (atS q (w, h)) s.1 s.2.1) (fun q => b && fitO os (atS q (h, w)) s.1 s.2.1) (spotsL s) with
    | some q => rfl
    | none => exact place_sc ht hw hh r (i + 1) fun x hx => hs x (List.mem_cons_of_mem _ hx)
theorem alike_eq {t : Int} {r : Option P4} {S : List RS} (ht : 0 < t ∧ t < 1000000) : m__law_alike [.val (optD plD (r.map (scP t))), .val (optD plD r), .val (.int t)] S = .ok (.val (.bool true)) S := by
  have e1 := @whole_int
  have hb := fun τ S => congrFun (congrFun L1__law_alike.eq_1 τ) S
  have r3 : rangeD 0 (Int.toNat 3) = [.int 0, .int 1, .int 2] := rfl
  have m1 : ∀ f x, gI cMul f (.val (.int x)) (.val (.int t)) = some (.val (f x t)) := fun f x => gI_mul (.inr (by omega))
  unfold m__law_alike t__law_alike
  cases r with
  | none =>
    have e2 : isNon .none = true := rfl
    walk_at "runh"
    rfl
  | some p =>
    rw [Option.map_some, optD_some, optD_some]
    have e2 := gEq_self (shaped_of (lay_plD (scP t p)))
    have e3 : (((4 : Nat) : Int) == 4) = true := rfl
    obtain ⟨a, b, c, d⟩ := p
    unfold plD scP at *
    have e4 : isNon (.tuple [.int a, .int b, .int c, .bool d]) = false := rfl
    clear ht
    walk_at "runh"
theorem times_in {t : Int} {o : O4} {τ : Sl} {S : List RS} (ht : 0 < t ∧ t < 1000000) (h1 : τ[1]? = some (some (.val (.int t)))) (h2 : τ[13]? = some (some (.val (oD o)))) : CE2_law τ S = .ok (.val (oD (scO t t o))) S := by
  obtain ⟨a, b, c, d⟩ := o
  have m1 : ∀ f x, gI cMul f (.val (.int x)) (.val (.int t)) = some (.val (f x t)) := fun f x => gI_mul (.inr (by omega))
  unfold CE2_law
  unfold oD at *
  clear ht
  walk_at "runh"
  rfl
theorem told_loop {t : Int} {b0 b2 b3 b4 b5 b6 b7 b8 b9 b10 : Option Xv} {S : List RS} (ht : 0 < t ∧ t < 1000000) : ∀ (rs acc : List (List O4)) (y12 : Option Xv), acc.length + rs.length ≤ 100 → (∀ os ∈ rs, os.length ≤ 100) →
    ∃ y12', loopS (gN 12) L3_law (rs.map rowD) [b0, some (.val (.int t)), b2, b3, b4, b5, b6, b7, b8, b9, b10, some (.own (acc.map rowD)), y12, none, none, none, none] S = .nx [b0, some (.val (.int t)), b2, b3, b4, b5, b6, b7, b8, b9, b10, some (.own ((acc ++ rs.map fun os => os.map (scO t t)).map rowD)), y12', none, none, none, none] S
  | [], acc, y12, _, _ => ⟨y12, by simp [loop_nil]⟩
  | os :: rs, acc, y12, hl, hr => by
    rw [List.length_cons] at hl
    obtain ⟨z, ih⟩ := told_loop (b0 := b0) (b2 := b2) (b3 := b3) (b4 := b4) (b5 := b5) (b6 := b6) (b7 := b7) (b8 := b8) (b9 := b9) (b10 := b10) (S := S) ht rs (acc ++ [os.map (scO t t)]) (some (.val (rowD os))) (by rw [List.length_append, List.length_singleton]; omega) (fun x hx => hr x (List.mem_cons_of_mem _ hx))
    refine ⟨z, ?_⟩
    have ho := hr os List.mem_cons_self
    have hb := fun τ S => congrFun (congrFun L3_law.eq_1 τ) S
    have e2 : (acc.map rowD).length < 16777216 := by rw [List.length_map]; omega
    have cc : compS 13 tTrue CE2_law [b0, some (.val (.int t)), b2, b3, b4, b5, b6, b7, b8, b9, b10, some (.own (acc.map rowD)), some (.val (.list (os.map oD))), none, none, none, none] (os.map oD) [] S = .ok ([] ++ os.map fun o => oD (scO t t o)) S :=
      comp_mapE oD _ (fun a _ => rfl) (fun o _ => times_in ht rfl rfl) [] (by simp; omega)
    rw [List.nil_append, show (os.map fun o => oD (scO t t o)) = (os.map (scO t t)).map oD from by rw [List.map_map]; rfl] at cc
    rw [List.map_append] at ih
    rw [show acc ++ (os :: rs).map (fun os => os.map (scO t t)) = acc ++ [os.map (scO t t)] ++ rs.map (fun os => os.map (scO t t)) by simp, ← ih]
    clear ih hl hr ht ho
    rw [List.map_cons, loop_consN rfl, show [os.map (scO t t)].map rowD = [.list ((os.map (scO t t)).map oD)] from rfl, show rowD os = .list (os.map oD) from rfl]
    generalize acc.map rowD = L at e2 cc ⊢
    walk_at "runh"
theorem law_holds : Holds m_law := by
  intro ns hl
  refine ⟨[], ?_⟩
  have e1 := @cell_eq
  obtain ⟨t, hT⟩ : ∃ W, W = 1 + cell ns 0 % 160000 := ⟨_, rfl⟩
  have ht : 0 < t ∧ t < 1000000 := by omega
  obtain ⟨ss, s1, s2, f1⟩ := shelves_eq (ns := ns) (S := [])
  obtain ⟨rs, r1, r2, f2⟩ := rows_eq (ns := ns) (bare := cell ns 1 % 7) (ss := ss) (S := []) s2
  obtain ⟨d, hd⟩ : ∃ d, d = (cell ns 6 * 48271 + 11) % 2147483647 := ⟨_, rfl⟩
  obtain ⟨w, hw⟩ : ∃ W, W = 1 + d % 5 := ⟨_, rfl⟩
  obtain ⟨h, hh⟩ : ∃ W, W = 1 + d / 5 % 5 := ⟨_, rfl⟩
  obtain ⟨b, hb⟩ : ∃ W, W = decide (0 < d / 25 % 3) := ⟨_, rfl⟩
  have w1 : 1 ≤ w := by omega
  have h1 : 1 ≤ h := by omega
  have hz1 : (ss.zip rs).map (fun r => shD r.1) = ss.map shD := by
    rw [show (ss.zip rs).map (fun r => shD r.1) = ((ss.zip rs).map Prod.fst).map shD by rw [List.map_map]; rfl, List.map_fst_zip (by omega)]
  have hz2 : (ss.zip rs).map (fun r => rowD r.2) = rs.map rowD := by
    rw [show (ss.zip rs).map (fun r => rowD r.2) = ((ss.zip rs).map Prod.snd).map rowD by rw [List.map_map]; rfl, List.map_snd_zip (by omega)]
  have hsm : ∀ r ∈ ss.zip rs, small r.1 := fun r hr => s1 r.1 (List.of_mem_zip hr).1
  have hro : ∀ r ∈ ss.zip rs, r.2.length ≤ 100 := fun r hr => r1 r.2 (List.of_mem_zip hr).2
  have hlz : (ss.zip rs).length ≤ 9 := by rw [List.length_zip]; omega
  have f3 : ∀ S, m__law_due [.val (.list (ss.map shD)), .val (.list (rs.map rowD)), .val (.int w), .val (.int h), .val (.bool b)] S = .ok (.val (optD plD (ldue w h b 0 (ss.zip rs)))) S := fun S => by
    rw [← hz1, ← hz2]
    exact due_eq (isL_val _) (isL_val _) hsm (by omega)
  have f4 : ∀ S, m_first_place [.val (.list ((ss.map (scS3 t)).map shD)), .val (.list ((rs.map fun os => os.map (scO t t)).map rowD)), .val (.int (w * t)), .val (.int (h * t)), .val (.bool b)] S = .ok (.val (optD plD ((ldue w h b 0 (ss.zip rs)).map (scP t)))) S := fun S => by
    rw [← place_sc ht.1 w1 h1 (ss.zip rs) 0 hsm]
    have g1 : (ss.map (scS3 t)).map shD = (((ss.zip rs).map fun r => (scS3 t r.1, r.2.map (scO t t)))).map fun r => shD r.1 := by
      rw [List.map_map, List.map_map, show (ss.zip rs).map ((fun r => shD r.1) ∘ fun r => (scS3 t r.1, r.2.map (scO t t))) = ((ss.zip rs).map Prod.fst).map (shD ∘ scS3 t) by rw [List.map_map]; rfl, List.map_fst_zip (by omega)]
    have g2 : (rs.map fun os => os.map (scO t t)).map rowD = (((ss.zip rs).map fun r => (scS3 t r.1, r.2.map (scO t t)))).map fun r => rowD r.2 := by
      rw [List.map_map, List.map_map, show (ss.zip rs).map ((fun r => rowD r.2) ∘ fun r => (scS3 t r.1, r.2.map (scO t t))) = ((ss.zip rs).map Prod.snd).map (rowD ∘ fun os => os.map (scO t t)) by rw [List.map_map]; rfl, List.map_snd_zip (by omega)]
    rw [g1, g2]
    refine fplace_eq (isL_val _) (isL_val _) (fun r hr => ?_) (by rw [List.length_map]; omega)
    obtain ⟨q, hq, rfl⟩ := List.mem_map.mp hr
    have := hro q hq
    rw [List.length_map]
    omega
  have f5 : ∀ S, m__law_alike [.val (optD plD ((ldue w h b 0 (ss.zip rs)).map (scP t))), .val (optD plD (ldue w h b 0 (ss.zip rs))), .val (.int t)] S = .ok (.val (.bool true)) S := fun S => alike_eq ht
  generalize ldue w h b 0 (ss.zip rs) = due at f3 f4 f5
  clear hz1 hz2 hsm hro hlz
  have m1 : ∀ f x, gI cMul f (.val (.int x)) (.val (.int t)) = some (.val (f x t)) := fun f x => gI_mul (.inr (by omega))
  have l3 : (ss.map shD).length ≤ 16777216 := by rw [List.length_map]; omega
  have q1 := gEq_self (shaped_map rowD lay_rowD (rs.map fun os => os.map (scO t t)))
  have q2 := gEq_self (shaped_map shD lay_shD (ss.map (scS3 t)))
  have c1 : ∀ b3 b4 b5 b6 b7 b8, compS 10 tTrue CE1_law [some (.scr ns), some (.val (.int t)), some (.val (.list (ss.map shD))), b3, b4, b5, b6, b7, b8, none, none, none, none, none, none, none, none] (ss.map shD) [] [] = .ok ([] ++ ss.map fun s => shD (scS3 t s)) [] := fun _ _ _ _ _ _ => by
    refine comp_mapE shD _ (fun a _ => rfl) (fun s _ => ?_) [] (by simp; omega)
    unfold CE1_law
    clear q1 q2
    walk_at "runh"
    rfl
  rw [List.nil_append, show (ss.map fun s => shD (scS3 t s)) = (ss.map (scS3 t)).map shD from by rw [List.map_map]; rfl] at c1
  have c2 := fun b2 b3 b4 b5 b6 b7 b8 b9 => told_loop (b0 := some (.scr ns)) (b2 := b2) (b3 := b3) (b4 := b4) (b5 := b5) (b6 := b6) (b7 := b7) (b8 := b8) (b9 := b9) (b10 := none) (S := []) ht rs [] none (by simp; omega) r1
  unfold m_law t_law
  clear s1 r1
  walk_at "runh"
  simp only [← hT, ← hd, ← hw, ← hh, ← hb]
  obtain ⟨y12, c2⟩ := c2 (some (.val (.list (ss.map shD)))) (some (.val (.list (rs.map rowD)))) (some (.val (.int d))) (some (.val (.int w))) (some (.val (.int h))) (some (.val (.bool b))) (some (.val (optD plD due))) (some (.own ((ss.map (scS3 t)).map shD)))
  rw [List.map_nil, List.nil_append] at c2
  have c1 := c1 (some (.val (.list (rs.map rowD)))) (some (.val (.int d))) (some (.val (.int w))) (some (.val (.int h))) (some (.val (.bool b))) (some (.val (optD plD due)))
  have c4 : compS 12 tTrue CE4_law [some (.scr ns), some (.val (.int t)), some (.val (.list (ss.map shD))), some (.val (.list (rs.map rowD))), some (.val (.int d)), some (.val (.int w)), some (.val (.int h)), some (.val (.bool b)), some (.val (optD plD due)), some (.own ((ss.map (scS3 t)).map shD)), none, some (.val (.list ((rs.map fun os => os.map (scO t t)).map rowD))), none, none, none, none, none] ((rs.map fun os => os.map (scO t t)).map rowD) [] [] = .ok ([] ++ (rs.map fun os => os.map (scO t t)).map rowD) [] := by
    refine comp_mapE rowD _ (fun a _ => rfl) (fun os _ => ?_) [] (by simp; omega)
    rw [show rowD os = .list (os.map oD) from rfl]
    unfold CE4_law
    clear c1 c2 q1 q2 f3 f4 f5 e1 m1 hT hd hw hh hb
    walk_at "run"
  rw [List.nil_append] at c4
  clear hT hd hw hh hb ht
  walk_at "runh"
end Pk.Law
namespace Pk.Law
open PySem L2 PySem.Spec PyProof.Rows
def fn : List He.DefD := [⟨("overlap", none), "overlap", "overlap", defArgs s_overlap, defBody s_overlap, defScope s_overlap, [], []⟩, ⟨("inside", none), "inside", "inside", defArgs s_inside, defBody s_inside, defScope s_inside, [], []⟩, ⟨("first_hit", none), "first_hit", "first_hit", defArgs s_first_hit, defBody s_first_hit, defScope s_first_hit, [], []⟩, ⟨("fits", none), "fits", "fits", defArgs s_fits, defBody s_fits, defScope s_fits, [], []⟩, ⟨("lesser", none), "lesser", "lesser", defArgs s_lesser, defBody s_lesser, defScope s_lesser, [], []⟩, ⟨("ends", none), "ends", "ends", defArgs s_ends, defBody s_ends, defScope s_ends, [], []⟩, ⟨("first_spot", none), "first_spot", "first_spot", defArgs s_first_spot, defBody s_first_spot, defScope s_first_spot, [], []⟩, ⟨("first_on", none), "first_on", "first_on", defArgs s_first_on, defBody s_first_on, defScope s_first_on, [], []⟩, ⟨("first_place", none), "first_place", "first_place", defArgs s_first_place, defBody s_first_place, defScope s_first_place, [], []⟩, ⟨("_law_cell_at", none), "_law_cell_at", "_law_cell_at", defArgs s__law_cell_at, defBody s__law_cell_at, defScope s__law_cell_at, [], []⟩, ⟨("_law_whole", none), "_law_whole", "_law_whole", defArgs s__law_whole, defBody s__law_whole, defScope s__law_whole, [], []⟩, ⟨("_law_apart", none), "_law_apart", "_law_apart", defArgs s__law_apart, defBody s__law_apart, defScope s__law_apart, [], []⟩, ⟨("_law_good", none), "_law_good", "_law_good", defArgs s__law_good, defBody s__law_good, defScope s__law_good, [], []⟩, ⟨("_law_spots", none), "_law_spots", "_law_spots", defArgs s__law_spots, defBody s__law_spots, defScope s__law_spots, [], []⟩, ⟨("_law_shelves", none), "_law_shelves", "_law_shelves", defArgs s__law_shelves, defBody s__law_shelves, defScope s__law_shelves, [], []⟩, ⟨("_law_rows", none), "_law_rows", "_law_rows", defArgs s__law_rows, defBody s__law_rows, defScope s__law_rows, [], []⟩, ⟨("_law_due", none), "_law_due", "_law_due", defArgs s__law_due, defBody s__law_due, defScope s__law_due, [], []⟩, ⟨("_law_alike", none), "_law_alike", "_law_alike", defArgs s__law_alike, defBody s__law_alike, defScope s__law_alike, [], []⟩, ⟨("law", none), "law", "law", defArgs s_law, defBody s_law, defScope s_law, [], []⟩]
def fa : List He.Fa := [.glo "overlap", .glo "inside", .glo "first_hit", .glo "fits", .glo "lesser", .glo "ends", .glo "first_spot", .glo "first_on", .glo "first_place", .glo "_law_cell_at", .glo "_law_whole", .glo "_law_apart", .glo "_law_good", .glo "_law_spots", .glo "_law_shelves", .glo "_law_rows", .glo "_law_due", .glo "_law_alike", .glo "law", .free "bool", .free "int", .free "isinstance", .free "len", .free "list", .free "range", .free "sorted", .free "tuple"]
abbrev R : PySem.W.OpenRow := PySem.W.OpenLaw.row PySem.Challenge.rw_packshelf_k06_the_first_place
abbrev hk : PySem.W.Hook := He.hookD 4 fa fn
def ob (s : PySem.W.SharedT) : He.AlD := He.obsDG 4 fa fn (HandSHeadRun.getT s)
theorem ob_eq (s : PySem.W.SharedT) : ob s = hk.obs s.abs := He.obsDG_eq (HandSHeadRun.getT_eq s)
theorem run (w : World) : HandSHeadRun.RunEq R (PySem.W.view R.prog [21]) hk ob 3000 ["overlap", "inside", "first_hit", "fits", "lesser", "ends", "first_spot", "first_on", "first_place", "_law_cell_at", "_law_whole", "_law_apart", "_law_good", "_law_spots", "_law_shelves", "_law_rows", "_law_due", "_law_alike"] w := by
  intro os
  kernel_rfl
theorem facts {P : Program} {w : World} {K : PySem.W.Frag} {h : Heap} {mg : Str → Option Value} {f : Addr} (hH : Holds m_law) (X : K.In h) (G : h.Ns mainGlobals mg) (hfa : mg ("law" : Str) = some (.ref f)) (c : He.SaysD fa fn K) :
    ∃ (fd : FuncData) (sp : Sp), (∀ (s : Shared) (u : Value), BindsTo s fd ⟨[u], []⟩ [("_law_script", u)]) ∧ (∀ (H : Hp) (a : Addr) (ns : List Int), ns.length ≤ 63 → Only H → SqL K H a (ns.map V.int) → sp [.ref a] H (fun v _ => v = .bl true) fun _ _ _ => False) ∧
      ∀ base : Heap, K.In base → base.Ns mainGlobals mg → FnOk P w K mg base CX0 7 f fd ["_law_script"] sp := by
  have A_overlap : DefAt K mg "overlap" s_overlap := ⟨_, let ⟨fd, F⟩ := c.def_ 0 rfl; ⟨fd, F, He.glo_ok X G (c.fact 0 (f := .glo "overlap") rfl)⟩⟩
  have A_inside : DefAt K mg "inside" s_inside := ⟨_, let ⟨fd, F⟩ := c.def_ 1 rfl; ⟨fd, F, He.glo_ok X G (c.fact 1 (f := .glo "inside") rfl)⟩⟩
  have A_first_hit : DefAt K mg "first_hit" s_first_hit := ⟨_, let ⟨fd, F⟩ := c.def_ 2 rfl; ⟨fd, F, He.glo_ok X G (c.fact 2 (f := .glo "first_hit") rfl)⟩⟩
  have A_fits : DefAt K mg "fits" s_fits := ⟨_, let ⟨fd, F⟩ := c.def_ 3 rfl; ⟨fd, F, He.glo_ok X G (c.fact 3 (f := .glo "fits") rfl)⟩⟩
  have A_lesser : DefAt K mg "lesser" s_lesser := ⟨_, let ⟨fd, F⟩ := c.def_ 4 rfl; ⟨fd, F, He.glo_ok X G (c.fact 4 (f := .glo "lesser") rfl)⟩⟩
  have A_ends : DefAt K mg "ends" s_ends := ⟨_, let ⟨fd, F⟩ := c.def_ 5 rfl; ⟨fd, F, He.glo_ok X G (c.fact 5 (f := .glo "ends") rfl)⟩⟩
  have A_first_spot : DefAt K mg "first_spot" s_first_spot := ⟨_, let ⟨fd, F⟩ := c.def_ 6 rfl; ⟨fd, F, He.glo_ok X G (c.fact 6 (f := .glo "first_spot") rfl)⟩⟩
  have A_first_on : DefAt K mg "first_on" s_first_on := ⟨_, let ⟨fd, F⟩ := c.def_ 7 rfl; ⟨fd, F, He.glo_ok X G (c.fact 7 (f := .glo "first_on") rfl)⟩⟩
  have A_first_place : DefAt K mg "first_place" s_first_place := ⟨_, let ⟨fd, F⟩ := c.def_ 8 rfl; ⟨fd, F, He.glo_ok X G (c.fact 8 (f := .glo "first_place") rfl)⟩⟩
  have A__law_cell_at : DefAt K mg "_law_cell_at" s__law_cell_at := ⟨_, let ⟨fd, F⟩ := c.def_ 9 rfl; ⟨fd, F, He.glo_ok X G (c.fact 9 (f := .glo "_law_cell_at") rfl)⟩⟩
  have A__law_whole : DefAt K mg "_law_whole" s__law_whole := ⟨_, let ⟨fd, F⟩ := c.def_ 10 rfl; ⟨fd, F, He.glo_ok X G (c.fact 10 (f := .glo "_law_whole") rfl)⟩⟩
  have A__law_apart : DefAt K mg "_law_apart" s__law_apart := ⟨_, let ⟨fd, F⟩ := c.def_ 11 rfl; ⟨fd, F, He.glo_ok X G (c.fact 11 (f := .glo "_law_apart") rfl)⟩⟩
  have A__law_good : DefAt K mg "_law_good" s__law_good := ⟨_, let ⟨fd, F⟩ := c.def_ 12 rfl; ⟨fd, F, He.glo_ok X G (c.fact 12 (f := .glo "_law_good") rfl)⟩⟩
  have A__law_spots : DefAt K mg "_law_spots" s__law_spots := ⟨_, let ⟨fd, F⟩ := c.def_ 13 rfl; ⟨fd, F, He.glo_ok X G (c.fact 13 (f := .glo "_law_spots") rfl)⟩⟩
  have A__law_shelves : DefAt K mg "_law_shelves" s__law_shelves := ⟨_, let ⟨fd, F⟩ := c.def_ 14 rfl; ⟨fd, F, He.glo_ok X G (c.fact 14 (f := .glo "_law_shelves") rfl)⟩⟩
  have A__law_rows : DefAt K mg "_law_rows" s__law_rows := ⟨_, let ⟨fd, F⟩ := c.def_ 15 rfl; ⟨fd, F, He.glo_ok X G (c.fact 15 (f := .glo "_law_rows") rfl)⟩⟩
  have A__law_due : DefAt K mg "_law_due" s__law_due := ⟨_, let ⟨fd, F⟩ := c.def_ 16 rfl; ⟨fd, F, He.glo_ok X G (c.fact 16 (f := .glo "_law_due") rfl)⟩⟩
  have A__law_alike : DefAt K mg "_law_alike" s__law_alike := ⟨_, let ⟨fd, F⟩ := c.def_ 17 rfl; ⟨fd, F, He.glo_ok X G (c.fact 17 (f := .glo "_law_alike") rfl)⟩⟩
  have A_law : DefAt K mg "law" s_law := ⟨_, let ⟨fd, F⟩ := c.def_ 18 rfl; ⟨fd, F, He.glo_ok X G (c.fact 18 (f := .glo "law") rfl)⟩⟩
  have h_bool : mg "bool" = none := He.free_ok X G (c.fact 19 (f := .free "bool") rfl)
  have h_int : mg "int" = none := He.free_ok X G (c.fact 20 (f := .free "int") rfl)
  have h_isinstance : mg "isinstance" = none := He.free_ok X G (c.fact 21 (f := .free "isinstance") rfl)
  have h_len : mg "len" = none := He.free_ok X G (c.fact 22 (f := .free "len") rfl)
  have h_list : mg "list" = none := He.free_ok X G (c.fact 23 (f := .free "list") rfl)
  have h_range : mg "range" = none := He.free_ok X G (c.fact 24 (f := .free "range") rfl)
  have h_sorted : mg "sorted" = none := He.free_ok X G (c.fact 25 (f := .free "sorted") rfl)
  have h_tuple : mg "tuple" = none := He.free_ok X G (c.fact 26 (f := .free "tuple") rfl)
  refine law_fin (G := ⟨0, fun _ => 0⟩) A_law hfa sc_law (fun _ _ _ _ _ _ us hl => match us, hl with | [_], _ => rfl) (fun base hK hN => ?_) hH
  have G_overlap := g_overlap (P := P) (w := w) (base := base) (G := ⟨0, fun _ => 0⟩) A_overlap 
  have G_inside := g_inside (P := P) (w := w) (base := base) (G := ⟨0, fun _ => 0⟩) A_inside 
  have G_first_hit := g_first_hit (P := P) (w := w) (base := base) (G := ⟨0, fun _ => 0⟩) A_first_hit G_overlap h_len h_range
  have G_fits := g_fits (P := P) (w := w) (base := base) (G := ⟨0, fun _ => 0⟩) A_fits G_first_hit G_inside
  have G_lesser := g_lesser (P := P) (w := w) (base := base) (G := ⟨0, fun _ => 0⟩) A_lesser 
  have G_ends := g_ends (P := P) (w := w) (base := base) (G := ⟨0, fun _ => 0⟩) A_ends h_sorted
  have G_first_spot := g_first_spot (P := P) (w := w) (base := base) (G := ⟨0, fun _ => 0⟩) A_first_spot G_ends G_fits
  have G_first_on := g_first_on (P := P) (w := w) (base := base) (G := ⟨0, fun _ => 0⟩) A_first_on G_first_spot G_lesser
  have G_first_place := g_first_place (P := P) (w := w) (base := base) (G := ⟨0, fun _ => 0⟩) A_first_place G_first_on h_len h_range
  have G__law_cell_at := g__law_cell_at (P := P) (w := w) (base := base) (G := ⟨0, fun _ => 0⟩) A__law_cell_at h_len
  have G__law_whole := g__law_whole (P := P) (w := w) (base := base) (G := ⟨0, fun _ => 0⟩) A__law_whole h_bool h_int h_isinstance
  have G__law_apart := g__law_apart (P := P) (w := w) (base := base) (G := ⟨0, fun _ => 0⟩) A__law_apart 
  have G__law_good := g__law_good (P := P) (w := w) (base := base) (G := ⟨0, fun _ => 0⟩) A__law_good G__law_apart
  have G__law_spots := g__law_spots (P := P) (w := w) (base := base) (G := ⟨0, fun _ => 0⟩) A__law_spots h_range
  have G__law_shelves := g__law_shelves (P := P) (w := w) (base := base) (G := ⟨0, fun _ => 0⟩) A__law_shelves G__law_cell_at h_range
  have G__law_rows := g__law_rows (P := P) (w := w) (base := base) (G := ⟨0, fun _ => 0⟩) A__law_rows G__law_cell_at h_len h_range
  have G__law_due := g__law_due (P := P) (w := w) (base := base) (G := ⟨0, fun _ => 0⟩) A__law_due G__law_good G__law_spots h_len h_range
  have G__law_alike := g__law_alike (P := P) (w := w) (base := base) (G := ⟨0, fun _ => 0⟩) A__law_alike G__law_whole h_bool h_isinstance h_len h_range h_tuple
  exact b_law G__law_alike G__law_cell_at G__law_due G__law_rows G__law_shelves G_first_place h_list
end Pk.Law
open PySem PySem.W PySem.Calls PyProof.Rows
set_option maxRecDepth 100000 in
set_option maxHeartbeats 0 in
theorem PySem.Challenge.cw_packshelf_k06_the_first_place_holds : PySem.Challenge.rw_packshelf_k06_the_first_place.Holds := by
  w_on; o_law
  refine HandSHeadRun.head_any (r := OpenLaw.row PySem.Challenge.rw_packshelf_k06_the_first_place) (q := view (OpenLaw.row PySem.Challenge.rw_packshelf_k06_the_first_place).prog [21]) (H := Pk.Law.hk) (ob := Pk.Law.ob) (M := 3000) (loose := ["overlap", "inside", "first_hit", "fits", "lesser", "ends", "first_spot", "first_on", "first_place", "_law_cell_at", "_law_whole", "_law_apart", "_law_good", "_law_spots", "_law_shelves", "_law_rows", "_law_due", "_law_alike"]) (d := HandSHeadRun.topDef (OpenLaw.row PySem.Challenge.rw_packshelf_k06_the_first_place).prog 21) (kwd := []) Pk.Law.ob_eq
    (by kernel_rfl) (fun s => by kernel_rfl) Pk.Law.run (by kernel_rfl) (by kernel_rfl) (by kernel_rfl) (by rfl) (by first | assumption | decide +kernel) (by decide +kernel) ⟨rfl, rfl, rfl, rfl, rfl, by decide +kernel⟩ ?hw ?hc
  case hw => w_witness2
  case hc =>
    refine L2.walk_ofE (l := PySem.Challenge.rw_packshelf_k06_the_first_place) (n := 63) (k := 7) (x := "_law_script") (CX := L2.CX0) rfl (by decide) (by kernel_rfl) ⟨rfl, by decide, by decide⟩ ?F (fun _ _ _ _ z => z)
    intro w mg fa h Y G hmg0
    obtain ⟨K, KX, c⟩ := Y
    have hmg : mg ("law" : PySem.Str) = some (.ref fa) := by
      have e : (HandSHeadRun.topDef (OpenLaw.row PySem.Challenge.rw_packshelf_k06_the_first_place).prog 21).name = ("law" : PySem.Str) := by kernel_rfl
      rw [← e]
      exact hmg0
    obtain ⟨fd, sp, h1, h2, h3⟩ := Pk.Law.facts (P := (PySem.Challenge.rw_packshelf_k06_the_first_place).prog) (w := w) Pk.Law.law_holds KX G hmg c
    exact ⟨K, fd, sp, KX, h1, h2, h3⟩
