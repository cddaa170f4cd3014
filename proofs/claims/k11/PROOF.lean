import PyProof.Rows.All
import Wide.All
import OpenK.AllK
import Wide.FinOn
import HandS.ForMost
import HandS.ForExc
import HandS.IsInst
import HandS.Wide
import HandS.Walk
import HandS.TupAny
import HandS.Zip
import HandS.Codes
import HandS.CallSlots
import HandS.Star
import HandS.MakeKw
import HandS.MakeKwOnly
import HandS.ClsMeth
import HandS.SlotsOwn
import HandS.OwnEq
import HandS.Deep
import HandS.Head0
import HandS.Head1
import HandS.Head2
import HandS.HeadEnd
import HandS.HeadHook1
import HandS.HeadHook2
import HandS.HeadHook3
import HandS.WrittenGet
import Wide.Once
import KE.KStateDown
import Lean
import PyProof.InstNe
import KE.GoesEnum
import HandS.ExcInit
import HandS.ExcField
import HandS.ExcIs
import KE.KExcInit
import HandS.Strs
import HandS.SortInts
import KE.KParD
import PySem.Challenge.RW_oneandonly_k11_texts_read
set_option Elab.async false
set_option linter.all false
set_option maxRecDepth 100000
set_option maxHeartbeats 4000000
set_option synthInstance.maxHeartbeats 1000000
set_option synthInstance.maxSize 100000
/-! ### DL: data over the hand layer -/
namespace DL
open PySem L2
/-- data: what never changes, by value; what changes, by its place -/
inductive D where
  | non | bl (b : Bool) | int (i : Int) | str (z : Str)
  | tup (xs : List D) | lst (xs : List D) | dic (ks : List Key) (vs : List D)
  | ins (c : Str) (ns : List Str) (vs : List D)
  | ref (a : Addr) | cls (c : Str) | cst (x : Str) | ty (n : String) | scr
/-- what stands at a place that may change -/
inductive Ob where
  | bag (c : Addr) | raw | lst (xs : List D) | dic (kvs : List (Key × D)) | ins (c : Str) (fs : List (Str × D))
/-- the places that may change -/
structure S where
  map : Addr → Option Ob
  fin : ∃ N, ∀ a, N ≤ a → map a = none
theorem S.ext {s t : S} (h : ∀ a, s.map a = t.map a) : s = t := by
  obtain ⟨m, f⟩ := s; obtain ⟨m', f'⟩ := t
  have : m = m' := funext h
  subst this; rfl
def S.set (s : S) (a : Addr) (o : Ob) : S := ⟨fun b => if b = a then some o else s.map b, by
  obtain ⟨N, h⟩ := s.fin
  refine ⟨N + a + 1, fun b hb => ?_⟩
  rw [if_neg (Nat.ne_of_gt (Nat.lt_of_lt_of_le (Nat.lt_of_le_of_lt (Nat.le_add_left a N) (Nat.lt_succ_self _)) hb))]; exact h b (Nat.le_trans (Nat.le_trans (Nat.le_add_right N a) (Nat.le_succ _)) hb)⟩
def S.del (s : S) (a : Addr) : S := ⟨fun b => if b = a then none else s.map b, by
  obtain ⟨N, h⟩ := s.fin
  refine ⟨N, fun b hb => ?_⟩
  show (if b = a then none else s.map b) = none
  split
  · rfl
  · exact h b hb⟩
theorem S.set_same {s : S} {a : Addr} {o : Ob} : (s.set a o).map a = some o := if_pos rfl
theorem S.set_ne {s : S} {a b : Addr} {o : Ob} (h : b ≠ a) : (s.set a o).map b = s.map b := if_neg h
theorem S.del_same {s : S} {a : Addr} : (s.del a).map a = none := if_pos rfl
theorem S.del_ne {s : S} {a b : Addr} (h : b ≠ a) : (s.del a).map b = s.map b := if_neg h
theorem S.del_set {s : S} {a : Addr} {o : Ob} (h : s.map a = none) : (s.set a o).del a = s := by
  refine S.ext fun b => ?_
  by_cases e : b = a
  · subst e; rw [S.del_same, h]
  · rw [S.del_ne e, S.set_ne e]
theorem S.set_set {s : S} {a : Addr} {o p : Ob} : (s.set a o).set a p = s.set a p := by
  refine S.ext fun b => ?_
  by_cases e : b = a
  · subst e; rw [S.set_same, S.set_same]
  · rw [S.set_ne e, S.set_ne e, S.set_ne e]
theorem S.fresh (s : S) : ∃ a, s.map a = none := let ⟨N, h⟩ := s.fin; ⟨N, h N (Nat.le_refl _)⟩
theorem upd_none {H : Hp} {a p : Addr} {o : HO} (h : upd H a o p = none) : p ≠ a ∧ H p = none := by
  by_cases e : p = a
  · subst e; rw [upd_same] at h; cases h
  · rw [upd_ne e] at h; exact ⟨e, h⟩
theorem none_upd {H : Hp} {a p : Addr} {o : HO} (n : p ≠ a) (h : H p = none) : upd H a o p = none := by
  rw [upd_ne n]; exact h
theorem same_upd {H : Hp} {p : Addr} {o : HO} (n : H p = none) : Same H (upd H p o) := fun b u h => by
  rw [upd_ne (ne_of_none h n)]; exact h
theorem same_at {H0 H : Hp} {d : Addr} {o : HO} (s : Same H0 H) (n : H0 d = none) : Same H0 (upd H d o) := fun q u h => by
  rw [upd_ne (ne_of_none h n)]; exact s _ _ h
/-- the written part, the places of classes and constants -/
structure G where
  K : PySem.W.Frag
  cl : Str → Addr
  cs : Str → Addr
mutual
/-- the value v is the datum d, by what never changes -/
def RelD (g : G) (F : Hp) : D → V → Prop
  | .non, v => v = .non
  | .bl b, v => v = .bl b
  | .int i, v => v = .int i
  | .str z, v => v = .str z
  | .tup ds, v => ∃ a vs, v = .ref a ∧ SqT g.K F a vs ∧ RelDs g F ds vs
  | .lst ds, v => ∃ a vs, v = .ref a ∧ F a = some (.lst vs) ∧ RelDs g F ds vs
  | .dic ks ds, v => ∃ a kvs, v = .ref a ∧ F a = some (.dK kvs) ∧ kvs.map (·.1) = ks ∧ RelDs g F ds (kvs.map (·.2))
  | .ins c ns ds, v => ∃ a dx fs, v = .ref a ∧ F a = some (.ins (g.cl c) dx fs) ∧ fs.map (·.1) = ns ∧ RelDs g F ds (fs.map (·.2))
  | .ref a, v => v = .ref a
  | .cls c, v => v = .ref (g.cl c)
  | .cst x, v => v = .ref (g.cs x)
  | .ty n, v => v = .ty n
  | .scr, v => ∃ (a : Addr) (ns : List Int), v = .ref a ∧ SqL g.K F a (ns.map V.int)
def RelDs (g : G) (F : Hp) : List D → List V → Prop
  | [], vs => vs = []
  | d :: ds, vs => ∃ v r, vs = v :: r ∧ RelD g F d v ∧ RelDs g F ds r
end
variable {g : G} {Z F F' H H' : Hp}
theorem sqT_mono {K : PySem.W.Frag} {a : Addr} {xs : List V} (e : Same H H') (h : SqT K H a xs) : SqT K H' a xs := by
  rcases h with (h | ⟨o, h⟩) | h
  · exact .inl (.inl (e _ _ h))
  · exact .inl (.inr ⟨o, e _ _ h⟩)
  · exact .inr h
mutual
theorem RelD.mono (s : Same F F') : ∀ {d : D} {v : V}, RelD g F d v → RelD g F' d v
  | .non, _, h => by unfold RelD at h ⊢; exact h
  | .bl _, _, h => by unfold RelD at h ⊢; exact h
  | .int _, _, h => by unfold RelD at h ⊢; exact h
  | .str _, _, h => by unfold RelD at h ⊢; exact h
  | .tup ds, _, h => by
    unfold RelD at h ⊢
    obtain ⟨a, vs, e, h1, h2⟩ := h
    exact ⟨a, vs, e, sqT_mono s h1, RelDs.mono s h2⟩
  | .lst ds, _, h => by
    unfold RelD at h ⊢
    obtain ⟨a, vs, e, h1, h2⟩ := h
    exact ⟨a, vs, e, s _ _ h1, RelDs.mono s h2⟩
  | .dic ks ds, _, h => by
    unfold RelD at h ⊢
    obtain ⟨a, kvs, e, h1, h2, h3⟩ := h
    exact ⟨a, kvs, e, s _ _ h1, h2, RelDs.mono s h3⟩
  | .ins c ns ds, _, h => by
    unfold RelD at h ⊢
    obtain ⟨a, dx, fs, e, h1, h2, h3⟩ := h
    exact ⟨a, dx, fs, e, s _ _ h1, h2, RelDs.mono s h3⟩
  | .ref _, _, h => by unfold RelD at h ⊢; exact h
  | .cls _, _, h => by unfold RelD at h ⊢; exact h
  | .cst _, _, h => by unfold RelD at h ⊢; exact h
  | .ty _, _, h => by unfold RelD at h ⊢; exact h
  | .scr, _, h => by
    unfold RelD at h ⊢
    obtain ⟨a, ns, e, h1⟩ := h
    exact ⟨a, ns, e, s.seq h1⟩
theorem RelDs.mono (s : Same F F') : ∀ {ds : List D} {vs : List V}, RelDs g F ds vs → RelDs g F' ds vs
  | [], _, h => by unfold RelDs at h ⊢; exact h
  | d :: ds, _, h => by
    unfold RelDs at h ⊢
    obtain ⟨v, r, e, h1, h2⟩ := h
    exact ⟨v, r, e, RelD.mono s h1, RelDs.mono s h2⟩
end
theorem RelDs.nil : RelDs g F [] [] := by unfold RelDs; rfl
theorem RelDs.cons {d : D} {ds : List D} {v : V} {vs : List V} (h : RelD g F d v) (t : RelDs g F ds vs) : RelDs g F (d :: ds) (v :: vs) := by
  unfold RelDs; exact ⟨v, vs, rfl, h, t⟩
theorem RelDs.nil_inv {vs : List V} (h : RelDs g F [] vs) : vs = [] := by unfold RelDs at h; exact h
theorem RelDs.cons_inv {d : D} {ds : List D} {vs : List V} (h : RelDs g F (d :: ds) vs) : ∃ v r, vs = v :: r ∧ RelD g F d v ∧ RelDs g F ds r := by unfold RelDs at h; exact h
theorem RelDs.len : ∀ {ds : List D} {vs : List V}, RelDs g F ds vs → vs.length = ds.length
  | [], _, h => by rw [h.nil_inv]; rfl
  | _ :: _, _, h => by
    obtain ⟨v, r, e, _, h2⟩ := h.cons_inv
    rw [e]; simp [h2.len]
theorem RelDs.append : ∀ {ds es : List D} {vs us : List V}, RelDs g F ds vs → RelDs g F es us → RelDs g F (ds ++ es) (vs ++ us)
  | [], _, _, _, h, k => by rw [h.nil_inv]; exact k
  | _ :: _, _, _, _, h, k => by
    obtain ⟨v, r, e, h1, h2⟩ := h.cons_inv
    rw [e]; exact .cons h1 (h2.append k)
theorem RelDs.one {d : D} {v : V} (h : RelD g F d v) : RelDs g F [d] [v] := .cons h .nil
theorem RelDs.get : ∀ {ds : List D} {vs : List V} {i : Nat} {d : D}, RelDs g F ds vs → ds[i]? = some d → ∃ v, vs[i]? = some v ∧ RelD g F d v
  | [], _, _, _, _, e => by simp at e
  | x :: ds, _, 0, d, h, e => by
    obtain ⟨v, r, e', h1, _⟩ := h.cons_inv
    simp at e; subst e; subst e'; exact ⟨v, rfl, h1⟩
  | x :: ds, _, i + 1, d, h, e => by
    obtain ⟨v, r, e', _, h2⟩ := h.cons_inv
    subst e'
    obtain ⟨u, h3, h4⟩ := h2.get (i := i) (d := d) (by simpa using e)
    exact ⟨u, by simpa using h3, h4⟩
theorem RelDs.get' : ∀ {ds : List D} {vs : List V} {i : Nat} {v : V}, RelDs g F ds vs → vs[i]? = some v → ∃ d, ds[i]? = some d ∧ RelD g F d v := fun {ds vs i v} h e => by
  have hl : i < vs.length := (List.getElem?_eq_some_iff.mp e).1
  rw [h.len] at hl
  obtain ⟨u, h1, h2⟩ := h.get (i := i) (d := ds[i]) (by simp [hl])
  rw [e] at h1; cases h1
  exact ⟨_, by simp [hl], h2⟩
theorem RelDs.set {d : D} {v : V} (k : RelD g F d v) : ∀ {ds : List D} {vs : List V} (i : Nat), RelDs g F ds vs → RelDs g F (ds.set i d) (vs.set i v)
  | [], _, _, h => by rw [h.nil_inv]; exact .nil
  | x :: ds, _, 0, h => by
    obtain ⟨u, r, e, _, h2⟩ := h.cons_inv
    rw [e]; exact .cons k h2
  | x :: ds, _, i + 1, h => by
    obtain ⟨u, r, e, h1, h2⟩ := h.cons_inv
    rw [e]; exact .cons h1 (h2.set k i)
theorem RelDs.take : ∀ {ds : List D} {vs : List V} (n : Nat), RelDs g F ds vs → RelDs g F (ds.take n) (vs.take n)
  | _, _, 0, _ => by simp; exact .nil
  | [], _, n + 1, h => by rw [h.nil_inv]; exact .nil
  | x :: ds, _, n + 1, h => by
    obtain ⟨u, r, e, h1, h2⟩ := h.cons_inv
    rw [e]; exact .cons h1 (h2.take n)
theorem RelDs.drop : ∀ {ds : List D} {vs : List V} (n : Nat), RelDs g F ds vs → RelDs g F (ds.drop n) (vs.drop n)
  | _, _, 0, h => h
  | [], _, n + 1, h => by rw [h.nil_inv]; exact .nil
  | x :: ds, _, n + 1, h => by
    obtain ⟨u, r, e, h1, h2⟩ := h.cons_inv
    rw [e]; exact h2.drop n
/-- what stands at a place that may change -/
def ObR (g : G) (st : S) (F H : Hp) (a : Addr) : Ob → Prop
  | .bag c => st.map c = some .raw ∧ ∃ (seed cnt pos left big : Int), H a = some (.lst [.ref c, .int seed, .int cnt, .int pos, .int left, .int big]) ∧ 0 ≤ pos
  | .raw => ∃ ns : List Int, H a = some (.lst (ns.map V.int))
  | .lst ds => ∃ vs, H a = some (.lst vs) ∧ RelDs g F ds vs
  | .dic kds => ∃ kvs, H a = some (.dK kvs) ∧ kvs.map (·.1) = kds.map (·.1) ∧ RelDs g F (kds.map (·.2)) (kvs.map (·.2))
  | .ins c fds => ∃ dx fs, H a = some (.ins (g.cl c) dx fs) ∧ fs.map (·.1) = fds.map (·.1) ∧ RelDs g F (fds.map (·.2)) (fs.map (·.2))
/-- Z: what nobody touches for now; st: the places that may change; F: what never changes -/
structure Sim (g : G) (Z : Hp) (st : S) (F H : Hp) : Prop where
  same : Same F H
  ob : ∀ a o, st.map a = some o → F a = none ∧ ObR g st F H a o
  pin : ∀ a o, Z a = some o → F a = none ∧ st.map a = none ∧ H a = some o
theorem ObR.there {st : S} {a : Addr} {o : Ob} (h : ObR g st F H a o) : ∃ u, H a = some u := by
  cases o with
  | bag c => obtain ⟨_, _, _, _, _, _, e, _⟩ := h; exact ⟨_, e⟩
  | raw => obtain ⟨_, e⟩ := h; exact ⟨_, e⟩
  | lst ds => obtain ⟨_, e, _⟩ := h; exact ⟨_, e⟩
  | dic ds => obtain ⟨_, e, _⟩ := h; exact ⟨_, e⟩
  | ins c ds => obtain ⟨_, _, e, _⟩ := h; exact ⟨_, e⟩
theorem Sim.free {st : S} {p : Addr} (s : Sim g Z st F H) (n : H p = none) : F p = none ∧ st.map p = none := by
  refine ⟨s.same.free n, ?_⟩
  cases e : st.map p with
  | none => rfl
  | some o =>
    obtain ⟨u, hu⟩ := (s.ob p o e).2.there
    rw [n] at hu; cases hu
/-- what a place's description leans on -/
theorem ObR.move {st st' : S} {a : Addr} {o : Ob} (h : ObR g st F H a o) (hF : Same F F') (ha : H' a = H a) (hc : ∀ c, st.map c = some .raw → st'.map c = some .raw) : ObR g st' F' H' a o := by
  cases o with
  | bag c => obtain ⟨m, sd, cn, ps, l, b, e2, p⟩ := h; exact ⟨hc c m, sd, cn, ps, l, b, ha.trans e2, p⟩
  | raw => obtain ⟨ns, e⟩ := h; exact ⟨ns, ha.trans e⟩
  | lst ds => obtain ⟨vs, e, r⟩ := h; exact ⟨vs, ha.trans e, r.mono hF⟩
  | dic ds => obtain ⟨vs, e, k, r⟩ := h; exact ⟨vs, ha.trans e, k, r.mono hF⟩
  | ins c ds => obtain ⟨dx, vs, e, k, r⟩ := h; exact ⟨dx, vs, ha.trans e, k, r.mono hF⟩
/-- a new thing that never changes -/
theorem Sim.new {st : S} {p : Addr} {o : HO} (s : Sim g Z st F H) (n : H p = none) : Sim g Z st (upd F p o) (upd H p o) := by
  obtain ⟨nF, nS⟩ := s.free n
  refine ⟨fun b u h => ?_, fun a u e => ?_, fun a u e => ?_⟩
  · by_cases q : b = p
    · subst q; rw [upd_same] at h ⊢; exact h
    · rw [upd_ne q] at h ⊢; exact s.same _ _ h
  · have hp : a ≠ p := by rintro rfl; rw [nS] at e; cases e
    obtain ⟨f, r⟩ := s.ob a u e
    exact ⟨by rw [upd_ne hp]; exact f, r.move (same_upd nF) (upd_ne hp) fun _ m => m⟩
  · obtain ⟨f, m, h⟩ := s.pin a u e
    have hp : a ≠ p := ne_of_none h n
    exact ⟨by rw [upd_ne hp]; exact f, m, by rw [upd_ne hp]; exact h⟩
/-- a thing of no interest -/
theorem Sim.junk {st : S} {p : Addr} {o : HO} (s : Sim g Z st F H) (n : H p = none) : Sim g Z st F (upd H p o) := by
  obtain ⟨nF, nS⟩ := s.free n
  refine ⟨same_at s.same nF, fun a u e => ?_, fun a u e => ?_⟩
  · have hp : a ≠ p := by rintro rfl; rw [nS] at e; cases e
    obtain ⟨f, r⟩ := s.ob a u e
    exact ⟨f, r.move (Same.refl _) (upd_ne hp) fun _ m => m⟩
  · obtain ⟨f, m, h⟩ := s.pin a u e
    exact ⟨f, m, by rw [upd_ne (ne_of_none h n)]; exact h⟩
/-- a new place, or what stands at an old one changes -/
theorem Sim.put {st : S} {p : Addr} {o : HO} {ob : Ob} (s : Sim g Z st F H) (f : F p = none) (hp : H p = none ∨ ∃ u, st.map p = some u ∧ u ≠ .raw) (r : ObR g (st.set p ob) F (upd H p o) p ob) : Sim g Z (st.set p ob) F (upd H p o) := by
  have np : ∀ c, st.map c = some .raw → c ≠ p := fun c m q => by
    subst q
    rcases hp with n | ⟨v, e, d⟩
    · rw [(s.free n).2] at m; cases m
    · rw [m] at e; exact d (Option.some.inj e).symm
  have nz : ∀ a u, Z a = some u → a ≠ p := fun a u e q => by
    subst q
    obtain ⟨_, m, h⟩ := s.pin a u e
    rcases hp with n | ⟨v, e2, _⟩
    · rw [n] at h; cases h
    · rw [m] at e2; cases e2
  refine ⟨same_at s.same f, fun a u e => ?_, fun a u e => ?_⟩
  · by_cases q : a = p
    · subst q
      rw [S.set_same] at e; cases e
      exact ⟨f, r⟩
    · rw [S.set_ne q] at e
      obtain ⟨f1, r1⟩ := s.ob a u e
      exact ⟨f1, r1.move (Same.refl _) (upd_ne q) fun c m => by rw [S.set_ne (np c m)]; exact m⟩
  · obtain ⟨f1, m, h⟩ := s.pin a u e
    have q := nz a u e
    exact ⟨f1, by rw [S.set_ne q]; exact m, by rw [upd_ne q]; exact h⟩
/-- a place is let go: it never changes again -/
theorem Sim.keep {st : S} {p : Addr} {o : HO} {ob : Ob} (s : Sim g Z st F H) (e : st.map p = some ob) (h : H p = some o) (nb : ob ≠ .raw) : Sim g Z (st.del p) (upd F p o) H := by
  obtain ⟨f, _⟩ := s.ob p ob e
  refine ⟨fun b u q => ?_, fun a u q => ?_, fun a u q => ?_⟩
  · by_cases z : b = p
    · subst z; rw [upd_same] at q; rw [← q]; exact h
    · rw [upd_ne z] at q; exact s.same _ _ q
  · have z : a ≠ p := by rintro rfl; rw [S.del_same] at q; cases q
    rw [S.del_ne z] at q
    obtain ⟨f1, r1⟩ := s.ob a u q
    refine ⟨by rw [upd_ne z]; exact f1, r1.move (same_upd f) rfl fun c m => ?_⟩
    rw [S.del_ne (by rintro rfl; rw [e] at m; exact nb (Option.some.inj m))]; exact m
  · obtain ⟨f1, m, h1⟩ := s.pin a u q
    have hc : a ≠ p := by rintro rfl; rw [e] at m; cases m
    exact ⟨by rw [upd_ne hc]; exact f1, by rw [S.del_ne hc]; exact m, h1⟩
/-- one place more that nobody touches -/
theorem Sim.pinNew {st : S} {p : Addr} {o : HO} (s : Sim g Z st F H) (n : H p = none) : Sim g (upd Z p o) st F (upd H p o) := by
  obtain ⟨nF, nS⟩ := s.free n
  have j := s.junk (o := o) n
  refine ⟨j.same, j.ob, fun a u e => ?_⟩
  by_cases q : a = p
  · subst q; rw [upd_same] at e; cases e; exact ⟨nF, nS, upd_same⟩
  · rw [upd_ne q] at e
    exact j.pin a u e
/-- .. changed by its owner -/
theorem Sim.pinSet {st : S} {p : Addr} {o o' : HO} (s : Sim g (upd Z p o) st F H) : Sim g (upd Z p o') st F (upd H p o') := by
  obtain ⟨nF, nS, h⟩ := s.pin p o upd_same
  refine ⟨same_at s.same nF, fun a u q => ?_, fun a u q => ?_⟩
  · have hp : a ≠ p := by rintro rfl; rw [nS] at q; cases q
    obtain ⟨f, r⟩ := s.ob a u q
    exact ⟨f, r.move (Same.refl _) (upd_ne hp) fun _ m => m⟩
  · by_cases z : a = p
    · subst z; rw [upd_same] at q; cases q; exact ⟨nF, nS, upd_same⟩
    · rw [upd_ne z] at q
      obtain ⟨f1, m, h1⟩ := s.pin a u (by rw [upd_ne z]; exact q)
      exact ⟨f1, m, by rw [upd_ne z]; exact h1⟩
/-- .. let go: it never changes -/
theorem Sim.pinKeep {st : S} {p : Addr} {o : HO} (s : Sim g (upd Z p o) st F H) (z : Z p = none) : Sim g Z st (upd F p o) H := by
  obtain ⟨nF, nS, h⟩ := s.pin p o upd_same
  refine ⟨fun b u q => ?_, fun a u q => ?_, fun a u q => ?_⟩
  · by_cases y : b = p
    · subst y; rw [upd_same] at q; rw [← q]; exact h
    · rw [upd_ne y] at q; exact s.same _ _ q
  · have hp : a ≠ p := by rintro rfl; rw [nS] at q; cases q
    obtain ⟨f, r⟩ := s.ob a u q
    exact ⟨by rw [upd_ne hp]; exact f, r.move (same_upd nF) rfl fun _ m => m⟩
  · have hp : a ≠ p := by rintro rfl; rw [z] at q; cases q
    obtain ⟨f1, m, h1⟩ := s.pin a u (by rw [upd_ne hp]; exact q)
    exact ⟨by rw [upd_ne hp]; exact f1, m, h1⟩
/-- .. taken among the places that may change -/
theorem Sim.pinPut {st : S} {p : Addr} {o : HO} {ob : Ob} (s : Sim g (upd Z p o) st F H) (z : Z p = none) (r : ObR g (st.set p ob) F H p ob) : Sim g Z (st.set p ob) F H := by
  obtain ⟨nF, nS, h⟩ := s.pin p o upd_same
  refine ⟨s.same, fun a u q => ?_, fun a u q => ?_⟩
  · by_cases y : a = p
    · subst y; rw [S.set_same] at q; cases q; exact ⟨nF, r⟩
    · rw [S.set_ne y] at q
      obtain ⟨f, r⟩ := s.ob a u q
      exact ⟨f, r.move (Same.refl _) rfl fun c m => by rw [S.set_ne (by rintro rfl; rw [nS] at m; cases m)]; exact m⟩
  · have hp : a ≠ p := by rintro rfl; rw [z] at q; cases q
    obtain ⟨f1, m, h1⟩ := s.pin a u (by rw [upd_ne hp]; exact q)
    exact ⟨f1, by rw [S.set_ne hp]; exact m, h1⟩
theorem Sim.zfree {st : S} {p : Addr} (s : Sim g Z st F H) (n : H p = none) : Z p = none := by
  cases e : Z p with
  | none => rfl
  | some o => rw [(s.pin p o e).2.2] at n; cases n
end DL

/-! ### the monad of mirrors, the judgements -/
namespace DL
open PySem L2
abbrev Env := List (Option D)
/-- an exception: its class, its fields -/
structure Ex where
  c : Str
  ns : List Str
  vs : List D
abbrev M (ε α : Type) := S → (α → S → Prop) → (ε → S → Prop) → Prop
def pureM {ε α : Type} (a : α) : M ε α := fun s Q _ => Q a s
def bindM {ε α β : Type} (m : M ε α) (f : α → M ε β) : M ε β := fun s Q E => m s (fun a s' => f a s' Q E) E
def failM {ε α : Type} : M ε α := fun _ _ _ => False
def raiseM {ε α : Type} (x : ε) : M ε α := fun s _ E => E x s
/-- a look at the places -/
def seeM {ε α : Type} (r : S → Option α) : M ε α := fun s Q _ => ∃ a, r s = some a ∧ Q a s
/-- a demand -/
def needM {ε : Type} (p : Prop) : M ε Unit := fun s Q _ => p ∧ Q () s
theorem pure_bindM {ε α β : Type} (a : α) (f : α → M ε β) : bindM (pureM a) f = f a := rfl
theorem bind_pureM {ε α : Type} (m : M ε α) : bindM m pureM = m := rfl
theorem bind_bindM {ε α β γ : Type} (m : M ε α) (f : α → M ε β) (k : β → M ε γ) : bindM (bindM m f) k = bindM m fun a => bindM (f a) k := rfl
theorem raise_bindM {ε α β : Type} (x : ε) (f : α → M ε β) : bindM (raiseM x) f = raiseM x := rfl
theorem seeM_some {ε α : Type} (a : α) : (seeM (fun _ => some a) : M ε α) = pureM a := by
  funext s Q E
  exact propext ⟨fun ⟨b, h, q⟩ => by cases h; exact q, fun q => ⟨a, rfl, q⟩⟩
def Mono {ε α : Type} (m : M ε α) : Prop := ∀ s (Q Q' : α → S → Prop) (E E' : ε → S → Prop), (∀ a s, Q a s → Q' a s) → (∀ x s, E x s → E' x s) → m s Q E → m s Q' E'
section
variable {ε α β : Type}
theorem mono_pure (a : α) : Mono (pureM a : M ε α) := fun _ _ _ _ _ hq _ h => hq _ _ h
theorem mono_bind {m : M ε α} {f : α → M ε β} (h : Mono m) (k : ∀ a, Mono (f a)) : Mono (bindM m f) := fun s _ _ _ _ hq he => h s _ _ _ _ (fun a s' => k a s' _ _ _ _ hq he) he
theorem mono_fail : Mono (failM : M ε α) := fun _ _ _ _ _ _ _ h => h
theorem mono_raise (x : ε) : Mono (raiseM x : M ε α) := fun _ _ _ _ _ _ he h => he _ _ h
theorem mono_see (r : S → Option α) : Mono (seeM r : M ε α) := fun _ _ _ _ _ hq _ ⟨a, e, q⟩ => ⟨a, e, hq _ _ q⟩
theorem mono_need (p : Prop) : Mono (needM p : M ε Unit) := fun _ _ _ _ _ hq _ ⟨a, q⟩ => ⟨a, hq _ _ q⟩
theorem mono_ite {c : Prop} [Decidable c] {m n : M ε α} (h : Mono m) (k : Mono n) : Mono (if c then m else n) := by split <;> assumption
end
/-- the exception u with the dict at d -/
def RelEx (g : G) (F : Hp) (u : Value) (d : Option Addr) (x : Ex) : Prop :=
  u = .ref (g.cl x.c) ∧ ((x.ns = [] ∧ d = none) ∨ ∃ a fs, d = some a ∧ F a = some (.xd fs) ∧ fs.map (·.1) = x.ns ∧ RelDs g F x.vs (fs.map (·.2)))
def REnv (g : G) (F : Hp) (σ : St) (ρ : Env) : Prop := σ.length = ρ.length ∧ ∀ (i : Nat) (d : D), ρ[i]? = some (some d) → ∃ v, σ[i]? = some (some v) ∧ RelD g F d v
variable {g : G} {Z F F' H H' : Hp} {W : WX} {σ : St} {ρ : Env} {st : S} {α β γ δ : Type}
theorem REnv.mono (s : Same F F') (h : REnv g F σ ρ) : REnv g F' σ ρ := ⟨h.1, fun i d e => let ⟨v, h1, h2⟩ := h.2 i d e; ⟨v, h1, h2.mono s⟩⟩
theorem REnv.set {i : Nat} {d : D} {v : V} (h : REnv g F σ ρ) (r : RelD g F d v) : REnv g F (σ.set i (some v)) (ρ.set i (some d)) := by
  refine ⟨by simp [h.1], fun j x e => ?_⟩
  by_cases q : i = j
  · subst q
    rw [List.getElem?_set_self'] at e ⊢
    cases k : ρ[i]? with
    | none => rw [k] at e; cases e
    | some o =>
      rw [k] at e
      have hl : i < σ.length := by rw [h.1]; exact (List.getElem?_eq_some_iff.mp k).1
      simp at e
      subst e
      rw [List.getElem?_eq_getElem hl]
      exact ⟨v, rfl, r⟩
  · rw [List.getElem?_set_ne q] at e ⊢
    exact h.2 j x e
theorem REnv.none {i : Nat} {o : Option V} (h : REnv g F σ ρ) : REnv g F (σ.set i o) (ρ.set i none) := by
  refine ⟨by simp [h.1], fun j x e => ?_⟩
  by_cases q : i = j
  · subst q
    rw [List.getElem?_set_self'] at e
    cases k : ρ[i]? with
    | none => rw [k] at e; cases e
    | some o => rw [k] at e; simp at e
  · rw [List.getElem?_set_ne q] at e ⊢
    exact h.2 j x e
def Lk (g : G) (W : WX) (Z F : Hp) (E : Ex → Env → S → Prop) : Prop := ∀ x ρ st F' H' u d σ, Same F F' → Sim g Z st F' H' → REnv g F' σ ρ → RelEx g F' u d x → E x ρ st → W u d σ H'
theorem Lk.mono {E : Ex → Env → S → Prop} (s : Same F F') (h : Lk g W Z F E) : Lk g W Z F' E := fun x ρ st F2 H2 u d σ s2 => h x ρ st F2 H2 u d σ (s.trans s2)
structure Now (g : G) (W : WX) (Z : Hp) (σ : St) (H F : Hp) (ρ : Env) (st : S) (E : Ex → Env → S → Prop) : Prop where
  sim : Sim g Z st F H
  env : REnv g F σ ρ
  lk : Lk g W Z F E
def Res (g : G) (R : Hp → α → β → Prop) (Z F : Hp) (Q : β → Hp → Prop) : α → S → Prop := fun d st' => ∀ v F' H', Same F F' → Sim g Z st' F' H' → R F' d v → Q v H'
theorem Res.mono {R : Hp → α → β → Prop} {Q : β → Hp → Prop} {a : α} {s : S} (e : Same F F') (h : Res g R Z F Q a s) : Res g R Z F' Q a s := fun v F2 H2 s2 => h v F2 H2 (e.trans s2)
/-- the reading of a mirror -/
def tX (g : G) (R : Hp → α → β → Prop) (W : WX) (m : Env → M Ex α) : St → Hp → (β → Hp → Prop) → Prop := fun σ H Q => ∃ Z F st ρ E, Now g W Z σ H F ρ st E ∧ m ρ st (Res g R Z F Q) (fun x s => E x ρ s)
theorem tX.go {R1 : Hp → α → β → Prop} {R2 : Hp → γ → δ → Prop} {n : Env → M Ex α} {k : α → M Ex γ} {Q : δ → Hp → Prop} {P : β → Hp → Prop} {E : Ex → Env → S → Prop} (N : Now g W Z σ H F ρ st E) (hn : Mono (n ρ)) (hk : ∀ a, Mono (k a))
    (q : bindM (n ρ) k st (Res g R2 Z F Q) (fun x s => E x ρ s)) (next : ∀ d v F2 st2 H2, Same F F2 → Now g W Z σ H2 F2 ρ st2 E → R1 F2 d v → k d st2 (Res g R2 Z F2 Q) (fun x s => E x ρ s) → P v H2) : tX g R1 W n σ H P := by
  refine ⟨Z, F, st, ρ, E, N, hn _ _ _ _ _ (fun d s hk1 v F' H' e sim r => ?_) (fun _ _ x => x) q⟩
  exact next d v F' s H' e ⟨sim, N.env.mono e, N.lk.mono e⟩ r (hk d _ _ _ _ _ (fun _ _ z => z.mono e) (fun _ _ x => x) hk1)
/-- the end of a mirror: a value that is known -/
theorem tX.done {R : Hp → α → β → Prop} {Q : β → Hp → Prop} {d : α} {v : β} {E : Ex → Env → S → Prop} (N : Now g W Z σ H F ρ st E) (r : R F d v) (h : Res g R Z F Q d st) : Q v H := h v F H (Same.refl _) N.sim r
theorem Now.step {F2 H2 : Hp} {st2 : S} {E : Ex → Env → S → Prop} (N : Now g W Z σ H F ρ st E) (e : Same F F2) (s : Sim g Z st2 F2 H2) : Now g W Z σ H2 F2 ρ st2 E := ⟨s, N.env.mono e, N.lk.mono e⟩
abbrev RB : Hp → Bool → Bool → Prop := fun _ b c => b = c
/-- an expression, a test, arguments, with their mirrors -/
structure FE (g : G) (X : Cx) (W : WX) (e : Expr) (m : Env → M Ex D) : Prop where
  pe : PE X e (tX g (RelD g) W m)
  mono : ∀ ρ, Mono (m ρ)
structure FT (g : G) (X : Cx) (W : WX) (e : Expr) (m : Env → M Ex Bool) : Prop where
  pt : PT X e (tX g RB W m)
  mono : ∀ ρ, Mono (m ρ)
structure FA (g : G) (X : Cx) (W : WX) (es : List Expr) (m : Env → M Ex (List D)) : Prop where
  pa : PA X es (tX g (RelDs g) W m)
  mono : ∀ ρ, Mono (m ρ)
/-- `and`, `or` as a test -/
structure FW (g : G) (X : Cx) (W : WX) (e : Expr) (m : Env → M Ex Bool) : Prop where
  pw : PW X e (tX g RB W m)
  mono : ∀ ρ, Mono (m ρ)
variable {X : Cx} {e e1 e2 e3 : Expr} {pos : Pos}
theorem PE.imp {t t' : TE} (h : PE X e t) (k : ∀ σ H Q, t' σ H Q → t σ H Q) : PE X e t' := ⟨fun pins s σ H Q I q => h.run pins s σ H Q I (k _ _ _ q)⟩
theorem PT.imp {t t' : TT} (h : PT X e t) (k : ∀ σ H Q, t' σ H Q → t σ H Q) : PT X e t' := ⟨fun pins s σ H Q I q => h.run pins s σ H Q I (k _ _ _ q)⟩
theorem PW.imp {t t' : TT} (h : PW X e t) (k : ∀ σ H Q, t' σ H Q → t σ H Q) : PW X e t' := ⟨fun w pins s σ H Q I q => h.run w pins s σ H Q I (k _ _ _ q)⟩
theorem PA.imp {es : List Expr} {t t' : TA} (h : PA X es t) (k : ∀ σ H Q, t' σ H Q → t σ H Q) : PA X es t' := ⟨fun p pins s σ H Q I q => h.run p pins s σ H Q I (k _ _ _ q)⟩
theorem PS.imp {s : Stmt} {t t' : TS} (h : PS X s t) (k : ∀ D σ H, t' D σ H → t D σ H) : PS X s t' := ⟨fun pins s σ H D I q => h.run pins s σ H D I (k _ _ _ q)⟩
theorem PSs.imp {s : List Stmt} {t t' : TS} (h : PSs X s t) (k : ∀ D σ H, t' D σ H → t D σ H) : PSs X s t' := ⟨fun pins s σ H D I q => h.run pins s σ H D I (k _ _ _ q)⟩
/-! ### names, constants -/
def varO : Option (Option D) → M Ex D
  | some (some d) => pureM d
  | _ => failM
def var (i : Nat) : Env → M Ex D := fun ρ => varO ρ[i]?
theorem varO_inv {o : Option (Option D)} {Q : D → S → Prop} {E : Ex → S → Prop} (h : varO o st Q E) : ∃ d, o = some (some d) ∧ Q d st := by
  match o, h with
  | some (some d), h => exact ⟨d, rfl, h⟩
  | some none, h => exact h.elim
  | none, h => exact h.elim
theorem mono_var (i : Nat) (ρ : Env) : Mono (var i ρ) := by
  unfold var
  match ρ[i]? with
  | some (some d) => exact mono_pure _
  | some none => exact mono_fail
  | none => exact mono_fail
theorem fe_var (i : Nat) {x : Str} (hN : X.N[i]? = some x := by rfl) (hv : Vis X.env.scope x := by first | exact Or.inl rfl | exact Or.inr (Or.inl rfl) | exact Or.inr (Or.inr rfl)) (hd : (x == ("__debug__" : Str)) = false := by decide) (hcd : (x == ("__classdict__" : Str)) = false := by decide) :
    FE g X W (.Name x pos) (var i) := by
  refine ⟨PE.imp (pe_var hN hv hd hcd) fun σ H Q h => ?_, mono_var i⟩
  obtain ⟨Z, F, st, ρ, E, N, h⟩ := h
  obtain ⟨d, e, h⟩ := varO_inv h
  obtain ⟨v, e', r⟩ := N.env.2 i d e
  exact ⟨v, e', tX.done N r h⟩
def cst (d : D) : Env → M Ex D := fun _ => pureM d
theorem fe_cst {d : D} {v : V} (h : PE X e (tC v)) (r : ∀ F, RelD g F d v) : FE g X W e (cst d) :=
  ⟨PE.imp h fun σ H Q h => by
    obtain ⟨Z, F, st, ρ, E, N, h⟩ := h
    exact tX.done N (r F) h, fun _ => mono_pure _⟩
theorem relD_int {i : Int} : RelD g F (.int i) (.int i) := by unfold RelD; rfl
theorem relD_bl {b : Bool} : RelD g F (.bl b) (.bl b) := by unfold RelD; rfl
theorem relD_non : RelD g F .non .non := by unfold RelD; rfl
theorem relD_str {z : Str} : RelD g F (.str z) (.str z) := by unfold RelD; rfl
theorem relD_ref {a : Addr} : RelD g F (.ref a) (.ref a) := by unfold RelD; rfl
theorem relD_cls {c : Str} : RelD g F (.cls c) (.ref (g.cl c)) := by unfold RelD; rfl
theorem relD_cst {c : Str} : RelD g F (.cst c) (.ref (g.cs c)) := by unfold RelD; rfl
theorem relD_ty {n : String} : RelD g F (.ty n) (.ty n) := by unfold RelD; rfl
theorem fe_int {i : Int} {j} : FE g X W (.Constant (.int i) j pos) (cst (.int i)) := fe_cst pe_int fun _ => relD_int
theorem fe_bl {b : Bool} {j} : FE g X W (.Constant (.bool b) j pos) (cst (.bl b)) := fe_cst pe_bl fun _ => relD_bl
theorem fe_non {j} : FE g X W (.Constant .none j pos) (cst .non) := fe_cst pe_non fun _ => relD_non
theorem fe_str {z : Str} {j} : FE g X W (.Constant (.str z) j pos) (cst (.str z)) := fe_cst pe_str fun _ => relD_str
/-! ### tests and values -/
/-- from a value's reading to a test's -/
def asB : D → M Ex Bool
  | .bl b => pureM b
  | _ => failM
theorem mono_asB (d : D) : Mono (asB d) := by cases d <;> first | exact mono_pure _ | exact mono_fail
theorem asB_inv {d : D} {Q : Bool → S → Prop} {E : Ex → S → Prop} (h : asB d st Q E) : ∃ b, d = .bl b ∧ Q b st := by
  cases d with
  | bl b => exact ⟨b, rfl, h⟩
  | _ => exact h.elim
def liftT (m : Env → M Ex D) : Env → M Ex Bool := fun ρ => bindM (m ρ) asB
theorem mono_liftT {m : Env → M Ex D} (h : ∀ ρ, Mono (m ρ)) : ∀ ρ, Mono (liftT m ρ) := fun ρ => mono_bind (h ρ) mono_asB
theorem tX.test {m : Env → M Ex D} {Q : Bool → Hp → Prop} (hm : ∀ ρ, Mono (m ρ)) (h : tX g RB W (liftT m) σ H Q) : tX g (RelD g) W m σ H (fun x H' => ∃ k, x = .bl k ∧ Q k H') := by
  obtain ⟨Z, F, st, ρ, E, N, q⟩ := h
  refine tX.go N (hm ρ) mono_asB q fun d v F st H1 e N r q => ?_
  obtain ⟨b, rfl, q⟩ := asB_inv q
  unfold RelD at r
  exact ⟨b, r, tX.done N rfl q⟩
theorem ft_val {m : Env → M Ex D} (h : FE g X W e m) (he : ∀ whole, isTrue e X.env whole = (do let v ← whole; standAt e.pos; holding [v] (truthy v)) := by intro _; rfl) : FT g X W e (liftT m) :=
  ⟨PT.imp (pt_val h.pe he) fun _ _ _ q => tX.test h.mono q, mono_liftT h.mono⟩
def notT (m : Env → M Ex Bool) : Env → M Ex Bool := fun ρ => bindM (m ρ) fun b => pureM (!b)
theorem ft_not {m : Env → M Ex Bool} (h : FT g X W e m) : FT g X W (.UnaryOp .Not e pos) (notT m) :=
  ⟨PT.imp (pt_not h.pt) fun _ _ _ ⟨Z, F, st, ρ, E, N, q⟩ => tX.go N (h.mono ρ) (fun _ => mono_pure _) q fun d v F st H1 e N r q => by cases r; exact tX.done N rfl q,
   fun ρ => mono_bind (h.mono ρ) fun _ => mono_pure _⟩
def andT (m n : Env → M Ex Bool) : Env → M Ex Bool := fun ρ => bindM (m ρ) fun b => if b = true then n ρ else pureM false
def orT (m n : Env → M Ex Bool) : Env → M Ex Bool := fun ρ => bindM (m ρ) fun b => if b = true then pureM true else n ρ
theorem mono_andT {m n : Env → M Ex Bool} (h : ∀ ρ, Mono (m ρ)) (k : ∀ ρ, Mono (n ρ)) (ρ : Env) : Mono (andT m n ρ) := mono_bind (h ρ) fun _ => mono_ite (k ρ) (mono_pure _)
theorem mono_orT {m n : Env → M Ex Bool} (h : ∀ ρ, Mono (m ρ)) (k : ∀ ρ, Mono (n ρ)) (ρ : Env) : Mono (orT m n ρ) := mono_bind (h ρ) fun _ => mono_ite (mono_pure _) (k ρ)
theorem fw_one {op} (hw : op = .And ∨ op = .Or) {m : Env → M Ex Bool} (h : FT g X W e m) : FW g X W (.BoolOp op [e] pos) m := by
  rcases hw with rfl | rfl
  · exact ⟨PW.imp (pw_and1 h.pt) fun _ _ _ q => q, h.mono⟩
  · exact ⟨PW.imp (pw_or1 h.pt) fun _ _ _ q => q, h.mono⟩
theorem fw_and {m n : Env → M Ex Bool} {rest : List Expr} (h : FT g X W e m) (k : FW g X W (.BoolOp .And (e1 :: rest) pos) n) : FW g X W (.BoolOp .And (e :: e1 :: rest) pos) (andT m n) :=
  ⟨PW.imp (pw_and h.pt k.pw) fun _ _ _ ⟨Z, F, st, ρ, E, N, q⟩ => tX.go N (h.mono ρ) (fun _ => mono_ite (k.mono ρ) (mono_pure _)) q fun d v F st H1 e N r q => by
    cases r
    cases d with
    | true => exact ⟨Z, F, st, ρ, E, N, q⟩
    | false => exact tX.done N rfl q, mono_andT h.mono k.mono⟩
theorem fw_or {m n : Env → M Ex Bool} {rest : List Expr} (h : FT g X W e m) (k : FW g X W (.BoolOp .Or (e1 :: rest) pos) n) : FW g X W (.BoolOp .Or (e :: e1 :: rest) pos) (orT m n) :=
  ⟨PW.imp (pw_or h.pt k.pw) fun _ _ _ ⟨Z, F, st, ρ, E, N, q⟩ => tX.go N (h.mono ρ) (fun _ => mono_ite (mono_pure _) (k.mono ρ)) q fun d v F st H1 e N r q => by
    cases r
    cases d with
    | true => exact tX.done N rfl q
    | false => exact ⟨Z, F, st, ρ, E, N, q⟩, mono_orT h.mono k.mono⟩
theorem FW.ft {m : Env → M Ex Bool} (h : FW g X W e m) : FT g X W e m := ⟨h.pw.pt, h.mono⟩
/-- and, or, not as values of truth -/
def boolE (m : Env → M Ex Bool) : Env → M Ex D := fun ρ => bindM (m ρ) fun b => pureM (.bl b)
def andE (m n : Env → M Ex D) : Env → M Ex D := fun ρ => bindM (liftT m ρ) fun b => if b = true then n ρ else pureM (.bl false)
def orE (m n : Env → M Ex D) : Env → M Ex D := fun ρ => bindM (liftT m ρ) fun b => if b = true then pureM (.bl true) else n ρ
def notE (m : Env → M Ex D) : Env → M Ex D := fun ρ => bindM (liftT m ρ) fun b => pureM (.bl !b)
theorem tX.testGo {R2 : Hp → γ → δ → Prop} {m : Env → M Ex D} {k : Bool → M Ex γ} {Q : δ → Hp → Prop} {P : V → Hp → Prop} {E : Ex → Env → S → Prop} (N : Now g W Z σ H F ρ st E) (hm : Mono (m ρ)) (hk : ∀ a, Mono (k a)) (q : bindM (liftT m ρ) k st (Res g R2 Z F Q) (fun x s => E x ρ s))
    (next : ∀ b F2 st2 H2, Same F F2 → Now g W Z σ H2 F2 ρ st2 E → k b st2 (Res g R2 Z F2 Q) (fun x s => E x ρ s) → P (.bl b) H2) : tX g (RelD g) W m σ H P := by
  refine tX.go (k := fun d => bindM (asB d) k) N hm (fun d => mono_bind (mono_asB d) hk) q fun d v F st H1 e N r q => ?_
  obtain ⟨b, rfl, q⟩ := asB_inv q
  unfold RelD at r
  subst r
  exact next b F st H1 e N q
theorem fe_and {m n : Env → M Ex D} {rest : List Expr} (h : FE g X W e m) (k : FE g X W (.BoolOp .And (e1 :: rest) pos) n) : FE g X W (.BoolOp .And (e :: e1 :: rest) pos) (andE m n) :=
  ⟨PE.imp (pe_and h.pe k.pe) fun _ _ _ ⟨Z, F, st, ρ, E, N, q⟩ => tX.testGo N (h.mono ρ) (fun _ => mono_ite (k.mono ρ) (mono_pure _)) q fun b F st H1 e N q => ⟨b, rfl, by
    cases b with
    | true => exact ⟨Z, F, st, ρ, E, N, q⟩
    | false => exact tX.done N relD_bl q⟩, fun ρ => mono_bind (mono_liftT h.mono ρ) fun _ => mono_ite (k.mono ρ) (mono_pure _)⟩
theorem fe_or {m n : Env → M Ex D} {rest : List Expr} (h : FE g X W e m) (k : FE g X W (.BoolOp .Or (e1 :: rest) pos) n) : FE g X W (.BoolOp .Or (e :: e1 :: rest) pos) (orE m n) :=
  ⟨PE.imp (pe_or h.pe k.pe) fun _ _ _ ⟨Z, F, st, ρ, E, N, q⟩ => tX.testGo N (h.mono ρ) (fun _ => mono_ite (mono_pure _) (k.mono ρ)) q fun b F st H1 e N q => ⟨b, rfl, by
    cases b with
    | true => exact tX.done N relD_bl q
    | false => exact ⟨Z, F, st, ρ, E, N, q⟩⟩, fun ρ => mono_bind (mono_liftT h.mono ρ) fun _ => mono_ite (mono_pure _) (k.mono ρ)⟩
theorem fe_one {op} {m : Env → M Ex D} (h : FE g X W e m) : FE g X W (.BoolOp op [e] pos) m := ⟨pe_one h.pe, h.mono⟩
theorem fe_not {m : Env → M Ex D} (h : FE g X W e m) : FE g X W (.UnaryOp .Not e pos) (notE m) :=
  ⟨PE.imp (pe_not h.pe) fun _ _ _ ⟨Z, F, st, ρ, E, N, q⟩ => tX.testGo N (h.mono ρ) (fun _ => mono_pure _) q fun b F st H1 e N q => ⟨b, rfl, tX.done N relD_bl q⟩, fun ρ => mono_bind (mono_liftT h.mono ρ) fun _ => mono_pure _⟩
def iteE (c : Env → M Ex Bool) (m n : Env → M Ex D) : Env → M Ex D := fun ρ => bindM (c ρ) fun b => if b = true then m ρ else n ρ
theorem fe_ifExp {c : Env → M Ex Bool} {m n : Env → M Ex D} (h : FT g X W e c) (h1 : FE g X W e1 m) (h2 : FE g X W e2 n) : FE g X W (.IfExp e e1 e2 pos) (iteE c m n) :=
  ⟨PE.imp (pe_ifExp h.pt h1.pe h2.pe) fun _ _ _ ⟨Z, F, st, ρ, E, N, q⟩ => tX.go N (h.mono ρ) (fun _ => mono_ite (h1.mono ρ) (h2.mono ρ)) q fun d v F st H1 e N r q => by
    cases r
    cases d with
    | true => exact iteT ⟨Z, F, st, ρ, E, N, q⟩
    | false => exact iteF ⟨Z, F, st, ρ, E, N, q⟩, fun ρ => mono_bind (h.mono ρ) fun _ => mono_ite (h1.mono ρ) (h2.mono ρ)⟩
/-! ### arguments, displays -/
def argsN : Env → M Ex (List D) := fun _ => pureM []
def argsC (m : Env → M Ex D) (n : Env → M Ex (List D)) : Env → M Ex (List D) := fun ρ => bindM (m ρ) fun d => bindM (n ρ) fun ds => pureM (d :: ds)
theorem fa_nil : FA g X W [] argsN := ⟨PA.imp pa_nil fun σ H Q h => by
  obtain ⟨Z, F, st, ρ, E, N, h⟩ := h
  exact tX.done (R := RelDs g) (d := []) N .nil h, fun _ => mono_pure _⟩
theorem fa_cons {es : List Expr} {m : Env → M Ex D} {n : Env → M Ex (List D)} (h : FE g X W e m) (k : FA g X W es n) (hs : starEach (e :: es) X.env = (false, eval e X.env) :: starEach es X.env := by rfl) : FA g X W (e :: es) (argsC m n) :=
  ⟨PA.imp (pa_cons h.pe k.pa hs) fun _ _ _ ⟨Z, F, st, ρ, E, N, q⟩ => tX.go N (h.mono ρ) (fun _ => mono_bind (k.mono ρ) fun _ => mono_pure _) q fun d v F st H1 e N r q =>
    tX.go (R1 := RelDs g) N (k.mono ρ) (fun _ => mono_pure _) q fun ds vs F2 st2 H2 e2 N2 r2 q2 => tX.done (R := RelDs g) N2 (.cons (r.mono e2) r2) q2, fun ρ => mono_bind (h.mono ρ) fun _ => mono_bind (k.mono ρ) fun _ => mono_pure _⟩
end DL

/-! ### statements, loops, defs -/
namespace DL
open PySem L2
/-- how a statement ends -/
inductive Fl where
  | nx (ρ : Env) | rt (d : D) | bk (ρ : Env) | ct (ρ : Env)
abbrev MS := M (Ex × Env) Fl
variable {g : G} {Z F F' H H' : Hp} {W : WX} {σ : St} {ρ : Env} {st : S} {α β γ δ : Type} {X : Cx} {e e1 e2 e3 : Expr} {pos : Pos}
def up (ρ : Env) (m : M Ex α) : M (Ex × Env) α := fun s Q E => m s Q (fun x s' => E (x, ρ) s')
theorem up_pure (ρ : Env) (a : α) : up ρ (pureM a) = pureM a := rfl
theorem up_bind (ρ : Env) (m : M Ex α) (f : α → M Ex β) : up ρ (bindM m f) = bindM (up ρ m) fun a => up ρ (f a) := rfl
theorem up_raise (ρ : Env) (x : Ex) : (up ρ (raiseM x) : M (Ex × Env) α) = raiseM (x, ρ) := rfl
theorem up_fail (ρ : Env) : (up ρ failM : M (Ex × Env) α) = failM := rfl
theorem up_ite (ρ : Env) {c : Prop} [Decidable c] (m n : M Ex α) : up ρ (if c then m else n) = if c then up ρ m else up ρ n := by split <;> rfl
theorem mono_up {m : M Ex α} (h : Mono m) : Mono (up ρ m) := fun s _ _ _ _ hq he => h s _ _ _ _ hq fun _ _ => he _ _
def ResF (g : G) (Z F : Hp) (D : Ends) : Fl → S → Prop
  | .nx ρ', st' => ∀ σ' F' H', Same F F' → Sim g Z st' F' H' → REnv g F' σ' ρ' → D.nx σ' H'
  | .rt d, st' => ∀ v F' H', Same F F' → Sim g Z st' F' H' → RelD g F' d v → D.rt v H'
  | .bk ρ', st' => ∀ σ' F' H', Same F F' → Sim g Z st' F' H' → REnv g F' σ' ρ' → D.bk σ' H'
  | .ct ρ', st' => ∀ σ' F' H', Same F F' → Sim g Z st' F' H' → REnv g F' σ' ρ' → D.ct σ' H'
theorem ResF.mono {D : Ends} {f : Fl} {s : S} (e : Same F F') (h : ResF g Z F D f s) : ResF g Z F' D f s := by
  cases f with
  | nx _ => exact fun v F2 H2 s2 => h v F2 H2 (e.trans s2)
  | rt _ => exact fun v F2 H2 s2 => h v F2 H2 (e.trans s2)
  | bk _ => exact fun v F2 H2 s2 => h v F2 H2 (e.trans s2)
  | ct _ => exact fun v F2 H2 s2 => h v F2 H2 (e.trans s2)
abbrev Err (E : Ex → Env → S → Prop) : Ex × Env → S → Prop := fun x s => E x.1 x.2 s
def tS (g : G) (W : WX) (m : Env → MS) : TS := fun D σ H => ∃ Z F st ρ E, Now g W Z σ H F ρ st E ∧ m ρ st (ResF g Z F D) (Err E)
structure FS (g : G) (X : Cx) (W : WX) (s : Stmt) (m : Env → MS) : Prop where
  ps : PS X s (tS g W m)
  mono : ∀ ρ, Mono (m ρ)
structure FB (g : G) (X : Cx) (W : WX) (s : List Stmt) (m : Env → MS) : Prop where
  ps : PSs X s (tS g W m)
  mono : ∀ ρ, Mono (m ρ)
theorem tS.go {R1 : Hp → α → β → Prop} {n : Env → M Ex α} {k : α → MS} {D : Ends} {P : β → Hp → Prop} {E : Ex → Env → S → Prop} (N : Now g W Z σ H F ρ st E) (hn : Mono (n ρ)) (hk : ∀ a, Mono (k a))
    (q : bindM (up ρ (n ρ)) k st (ResF g Z F D) (Err E)) (next : ∀ d v F2 st2 H2, Same F F2 → Now g W Z σ H2 F2 ρ st2 E → R1 F2 d v → k d st2 (ResF g Z F2 D) (Err E) → P v H2) : tX g R1 W n σ H P := by
  refine ⟨Z, F, st, ρ, E, N, hn _ _ _ _ _ (fun d s hk1 v F' H' e sim r => ?_) (fun _ _ x => x) q⟩
  exact next d v F' s H' e ⟨sim, N.env.mono e, N.lk.mono e⟩ r (hk d _ _ _ _ _ (fun _ _ z => z.mono e) (fun _ _ x => x) hk1)
/-! ### blocks -/
def thenF (b : Env → MS) : Fl → MS
  | .nx ρ => b ρ
  | f => pureM f
theorem mono_thenF {b : Env → MS} (h : ∀ ρ, Mono (b ρ)) (f : Fl) : Mono (thenF b f) := by
  cases f with
  | nx ρ => exact h ρ
  | _ => exact mono_pure _
def seqS (a b : Env → MS) : Env → MS := fun ρ => bindM (a ρ) (thenF b)
def nilS : Env → MS := fun ρ => pureM (.nx ρ)
theorem fb_nil : FB g X W [] nilS := ⟨PSs.imp pss_nil fun D σ H ⟨Z, F, st, ρ, E, N, q⟩ => q σ F H (Same.refl _) N.sim N.env, fun _ => mono_pure _⟩
theorem fb_one {s : Stmt} {m : Env → MS} (h : FS g X W s m) : FB g X W [s] m := ⟨pss_one h.ps, h.mono⟩
theorem tS.seq {a b : Env → MS} {D : Ends} (ha : ∀ ρ, Mono (a ρ)) (hb : ∀ ρ, Mono (b ρ)) (h : tS g W (seqS a b) D σ H) : tS g W a { D with nx := tS g W b D } σ H := by
  obtain ⟨Z, F, st, ρ, E, N, q⟩ := h
  refine ⟨Z, F, st, ρ, E, N, ha ρ _ _ _ _ _ (fun f s k => ?_) (fun _ _ x => x) q⟩
  cases f with
  | nx ρ' => exact fun σ' F' H' e sim env => ⟨Z, F', s, ρ', E, ⟨sim, env, N.lk.mono e⟩, hb ρ' _ _ _ _ _ (fun _ _ z => z.mono e) (fun _ _ x => x) k⟩
  | rt d => exact k
  | bk _ => exact k
  | ct _ => exact k
theorem mono_seqS {a b : Env → MS} (ha : ∀ ρ, Mono (a ρ)) (hb : ∀ ρ, Mono (b ρ)) (ρ : Env) : Mono (seqS a b ρ) := mono_bind (ha ρ) (mono_thenF hb)
theorem fb_cons {s : Stmt} {r : List Stmt} {a b : Env → MS} (h : FS g X W s a) (k : FB g X W r b) : FB g X W (s :: r) (seqS a b) :=
  ⟨PSs.imp (pss_cons h.ps k.ps) fun _ _ _ q => tS.seq h.mono k.mono q, mono_seqS h.mono k.mono⟩
/-- a step of no code ahead of a statement -/
theorem fs_pre {s : Stmt} {a b : Env → MS} (hp : ∀ D σ H, tS g W a D σ H → D.nx σ H) (ha : ∀ ρ, Mono (a ρ)) (h : FS g X W s b) : FS g X W s (seqS a b) :=
  ⟨PS.imp h.ps fun D σ H q => hp _ _ _ (tS.seq ha h.mono q), mono_seqS ha h.mono⟩
/-! ### simple statements -/
def retS (m : Env → M Ex D) : Env → MS := fun ρ => bindM (up ρ (m ρ)) fun d => pureM (.rt d)
def retN : Env → MS := fun _ => pureM (.rt .non)
def exprS (m : Env → M Ex D) : Env → MS := fun ρ => bindM (up ρ (m ρ)) fun _ => pureM (.nx ρ)
def ifS (c : Env → M Ex Bool) (a b : Env → MS) : Env → MS := fun ρ => bindM (up ρ (c ρ)) fun k => if k = true then a ρ else b ρ
def setS (i : Nat) (m : Env → M Ex D) : Env → MS := fun ρ => bindM (up ρ (m ρ)) fun d => pureM (.nx (ρ.set i (some d)))
def bkS : Env → MS := fun ρ => pureM (.bk ρ)
def ctS : Env → MS := fun ρ => pureM (.ct ρ)
theorem fs_ret {m : Env → M Ex D} (h : FE g X W e m) : FS g X W (.Return (some e) pos) (retS m) :=
  ⟨PS.imp (ps_ret h.pe) fun D σ H ⟨Z, F, st, ρ, E, N, q⟩ => tS.go N (h.mono ρ) (fun _ => mono_pure _) q fun d v F st H1 e N r q => q v F H1 (Same.refl _) N.sim r,
   fun ρ => mono_bind (mono_up (h.mono ρ)) fun _ => mono_pure _⟩
theorem fs_retN : FS g X W (.Return none pos) retN := ⟨PS.imp ps_retN fun D σ H ⟨Z, F, st, ρ, E, N, q⟩ => q .non F H (Same.refl _) N.sim relD_non, fun _ => mono_pure _⟩
theorem fs_expr {m : Env → M Ex D} (h : FE g X W e m) (hs : swapsWith e none pos.line X.env = pure false := by rfl) : FS g X W (.Expr e pos) (exprS m) :=
  ⟨PS.imp (ps_expr h.pe hs) fun D σ H ⟨Z, F, st, ρ, E, N, q⟩ => tS.go N (h.mono ρ) (fun _ => mono_pure _) q fun d v F st H1 e N r q => q σ F H1 (Same.refl _) N.sim N.env,
   fun ρ => mono_bind (mono_up (h.mono ρ)) fun _ => mono_pure _⟩
theorem fs_if {c : Env → M Ex Bool} {a b : Env → MS} {sa sb : List Stmt} (h : FT g X W e c) (ha : FB g X W sa a) (hb : FB g X W sb b) : FS g X W (.If e sa sb pos) (ifS c a b) :=
  ⟨PS.imp (ps_if h.pt ha.ps hb.ps) fun D σ H ⟨Z, F, st, ρ, E, N, q⟩ => tS.go (R1 := RB) N (h.mono ρ) (fun _ => mono_ite (ha.mono ρ) (hb.mono ρ)) q fun d v F st H1 e N r q => by
    cases r
    cases d with
    | true => exact iteT ⟨Z, F, st, ρ, E, N, q⟩
    | false => exact iteF ⟨Z, F, st, ρ, E, N, q⟩,
   fun ρ => mono_bind (mono_up (h.mono ρ)) fun _ => mono_ite (ha.mono ρ) (hb.mono ρ)⟩
theorem fs_break : FS g X W (.Break pos) bkS := ⟨PS.imp ps_break fun D σ H ⟨Z, F, st, ρ, E, N, q⟩ => q σ F H (Same.refl _) N.sim N.env, fun _ => mono_pure _⟩
theorem fs_continue : FS g X W (.Continue pos) ctS := ⟨PS.imp ps_continue fun D σ H ⟨Z, F, st, ρ, E, N, q⟩ => q σ F H (Same.refl _) N.sim N.env, fun _ => mono_pure _⟩
theorem fs_pass : FS g X W (.Pass pos) nilS := ⟨PS.imp ps_pass fun D σ H ⟨Z, F, st, ρ, E, N, q⟩ => q σ F H (Same.refl _) N.sim N.env, fun _ => mono_pure _⟩
theorem fs_set {i : Nat} {x : Str} {m : Env → M Ex D} {pos' : Pos} (hN : X.N.Nodup) (hi : X.N[i]? = some x) (hx : Loc X.env.scope x) (h : FE g X W e m) (hs : swapsWith e (some (.Name x pos')) pos.line X.env = pure false := by rfl)
    (hf : X.fn x = true ∨ X.env.scope.names.lookup x = some .local := by first | exact .inl rfl | exact .inr rfl | assumption) : FS g X W (.Assign [.Name x pos'] e pos) (setS i m) :=
  ⟨PS.imp (ps_set hN hi hx h.pe hs hf) fun D σ H ⟨Z, F, st, ρ, E, N, q⟩ => tS.go N (h.mono ρ) (fun _ => mono_pure _) q fun d v F st H1 e N r q => q _ F H1 (Same.refl _) N.sim (N.env.set r),
   fun ρ => mono_bind (mono_up (h.mono ρ)) fun _ => mono_pure _⟩
/-! ### targets -/
def tG (g : G) (f : D → Env → Option Env) : TG := fun v σ H Q => ∃ Z F st d ρ ρ', Sim g Z st F H ∧ REnv g F σ ρ ∧ RelD g F d v ∧ f d ρ = some ρ' ∧ ∀ σ', REnv g F σ' ρ' → Q σ' H
def tGs (g : G) (f : List D → Env → Option Env) : TGs := fun v σ H Q => ∃ Z F st d ρ ρ', Sim g Z st F H ∧ REnv g F σ ρ ∧ RelDs g F d v ∧ f d ρ = some ρ' ∧ ∀ σ', REnv g F σ' ρ' → Q σ' H
def FG (g : G) (X : Cx) (tg : Expr) (f : D → Env → Option Env) : Prop := PG X tg (tG g f)
def FGs (g : G) (X : Cx) (tg : List Expr) (f : List D → Env → Option Env) : Prop := PGs X tg (tGs g f)
theorem PG.imp {t t' : TG} (h : PG X e t) (k : ∀ v σ H Q, t' v σ H Q → t v σ H Q) : PG X e t' := ⟨fun pins s σ H v u Q I r q => h.run pins s σ H v u Q I r (k _ _ _ _ q)⟩
theorem PGs.imp {es : List Expr} {t t' : TGs} (h : PGs X es t) (k : ∀ v σ H Q, t' v σ H Q → t v σ H Q) : PGs X es t' := by
  obtain ⟨r⟩ := h
  exact ⟨fun pins s σ H vs us Q I rr q => r pins s σ H vs us Q I rr (k _ _ _ _ q)⟩
def toName (i : Nat) : D → Env → Option Env := fun d ρ => some (ρ.set i (some d))
def toNil : List D → Env → Option Env := fun ds ρ => match ds with
  | [] => some ρ
  | _ => none
def toCons (f : D → Env → Option Env) (k : List D → Env → Option Env) : List D → Env → Option Env := fun ds ρ => match ds with
  | [] => none
  | d :: r => match f d ρ with
    | some ρ' => k r ρ'
    | none => none
def toTup (n : Nat) (f : List D → Env → Option Env) : D → Env → Option Env := fun d ρ => match d with
  | .tup ds => if ds.length = n then f ds ρ else none
  | _ => none
theorem fg_name {i : Nat} {x : Str} (hN : X.N.Nodup) (hi : X.N[i]? = some x) (hx : Loc X.env.scope x) (hf : X.fn x = true ∨ X.env.scope.names.lookup x = some .local := by first | exact .inl rfl | exact .inr rfl | assumption) : FG g X (.Name x pos) (toName i) :=
  PG.imp (pg_name hN hi hx hf) fun v σ H Q ⟨Z, F, st, d, ρ, ρ', sim, env, r, e, q⟩ => by
    cases (Option.some.inj e)
    exact q _ (env.set r)
theorem fgs_nil : FGs g X [] toNil := PGs.imp pgs_nil fun v σ H Q ⟨Z, F, st, d, ρ, ρ', sim, env, r, e, q⟩ => by
  cases d with
  | nil =>
    cases (Option.some.inj e)
    exact ⟨r.nil_inv, q _ env⟩
  | cons _ _ => cases e
theorem fgs_cons {es : List Expr} {f : D → Env → Option Env} {k : List D → Env → Option Env} (h1 : FG g X e f) (h2 : FGs g X es k) (hs : (assignEach (e :: es) X.env).map (·.2) = assign e X.env :: (assignEach es X.env).map (·.2) := by rfl) : FGs g X (e :: es) (toCons f k) :=
  PGs.imp (pgs_cons h1 h2 hs) fun vs σ H Q ⟨Z, F, st, ds, ρ, ρ', sim, env, r, eq, q⟩ => by
    cases ds with
    | nil => cases eq
    | cons d ds =>
      obtain ⟨v, vs', rfl, r1, r2⟩ := r.cons_inv
      cases hf : f d ρ with
      | none =>
        have : (match f d ρ with | some ρ' => k ds ρ' | none => none) = some ρ' := eq
        rw [hf] at this; cases this
      | some ρ1 =>
        have e2 : (match f d ρ with | some ρ' => k ds ρ' | none => none) = some ρ' := eq
        rw [hf] at e2
        exact ⟨v, vs', rfl, Z, F, st, d, ρ, ρ1, sim, env, r1, hf, fun σ1 env1 => ⟨Z, F, st, ds, ρ1, ρ', sim, env1, r2, e2, q⟩⟩
theorem fg_tup {es : List Expr} {k : Nat} {n : Nat} {f : List D → Env → Option Env} (hK : X.K = g.K) (hc : X.calm = true) (h : FGs g X es f) (hn : (assignEach es X.env).length = n := by rfl) (hst : (assignEach es X.env).findIdx? (·.1) = none := by rfl) : FG g X (.Tuple es k pos) (toTup n f) :=
  PG.imp (pg_tup hc h hn hst) fun v σ H Q ⟨Z, F, st, d, ρ, ρ', sim, env, r, eq, q⟩ => by
    cases d with
    | tup ds =>
      unfold RelD at r
      obtain ⟨a, vs, rfl, hs, hr⟩ := r
      have e2 : (if ds.length = n then f ds ρ else none) = some ρ' := eq
      by_cases hl : ds.length = n
      · rw [if_pos hl] at e2
        rw [hK]
        exact ⟨a, vs, rfl, sqT_mono sim.same hs, hr.len.trans hl, Z, F, st, ds, ρ, ρ', sim, env, hr, e2, q⟩
      · rw [if_neg hl] at e2; cases e2
    | _ => cases eq
/-- target = e -/
def asgS (f : D → Env → Option Env) (m : Env → M Ex D) : Env → MS := fun ρ => bindM (up ρ (m ρ)) fun d => match f d ρ with
  | some ρ' => pureM (.nx ρ')
  | none => failM
theorem fs_asg {tg : Expr} {f : D → Env → Option Env} {m : Env → M Ex D} (h : FE g X W e m) (hg : FG g X tg f) (hs : swapsWithSole [tg] e pos.line X.env = pure false := by rfl) (hw : swappedStores [tg] e X.env = pure none := by rfl) (h1 : (assignEach [tg] X.env).map (·.2) = [assign tg X.env] := by rfl) : FS g X W (.Assign [tg] e pos) (asgS f m) := by
  have mk : ∀ ρ d, Mono ((match f d ρ with | some ρ' => pureM (.nx ρ') | none => failM) : MS) := fun ρ d => by
    split
    · exact mono_pure _
    · exact mono_fail
  refine ⟨PS.imp (ps_asg h.pe hg hs hw h1) fun D σ H ⟨Z, F, st, ρ, E, N, q⟩ => tS.go N (h.mono ρ) (mk ρ) q fun d v F st H1 e N r q => ?_, fun ρ => mono_bind (mono_up (h.mono ρ)) (mk ρ)⟩
  cases hf : f d ρ with
  | none => rw [hf] at q; exact q.elim
  | some ρ' =>
    rw [hf] at q
    exact ⟨Z, F, st, d, ρ, ρ', N.sim, N.env, r, hf, fun σ' env' => q σ' F H1 (Same.refl _) N.sim env'⟩
/-! ### what is walked -/
structure WalkD (g : G) (Z : Hp) (J : It) (F : Hp) (items : List D) (P : S → Prop) : Prop where
  len : items.length ≤ sizeLine
  goes : ∀ F' H' st i, Same F F' → Sim g Z st F' H' → P st → i < items.length → J.go i H'
  stops : ∀ F' H' st, Same F F' → Sim g Z st F' H' → P st → J.stop items.length H'
  yields : ∀ F' H' st i v H'', Same F F' → Sim g Z st F' H' → P st → i < items.length → J.yld i H' v H'' → ∃ F'' d, Same F' F'' ∧ Sim g Z st F'' H'' ∧ items[i]? = some d ∧ RelD g F'' d v
/-- items and what must stand while they are walked -/
structure Src where
  items : List D
  P : S → Prop
def ResI (g : G) (Z F : Hp) (R : It → Hp → Prop) : Src → S → Prop := fun p st' => ∀ F' H' J, Same F F' → Sim g Z st' F' H' → (∀ Z', (∀ a o, Z a = some o → Z' a = some o) → WalkD g Z' J F' p.items p.P) → R J H'
def tI (g : G) (W : WX) (m : Env → M Ex Src) : TI := fun σ H R => ∃ Z F st ρ E, Now g W Z σ H F ρ st E ∧ m ρ st (ResI g Z F R) (fun x s => E x ρ s)
structure FI (g : G) (X : Cx) (W : WX) (tg it : Expr) (m : Env → M Ex Src) : Prop where
  pi : PI X tg it (tI g W m)
  mono : ∀ ρ, Mono (m ρ)
theorem PI.imp {tg : Expr} {t t' : TI} (h : PI X tg e t) (k : ∀ σ H Q, t' σ H Q → t σ H Q) : PI X tg e t' := ⟨fun pins s σ H Q I q => h.run pins s σ H Q I (k _ _ _ q)⟩
/-- behind a turn -/
def turnF (k : Env → MS) : Fl → MS
  | .nx ρ => k ρ
  | .ct ρ => k ρ
  | .bk ρ => pureM (.nx ρ)
  | .rt d => pureM (.rt d)
theorem mono_turnF {k : Env → MS} (h : ∀ ρ, Mono (k ρ)) (f : Fl) : Mono (turnF k f) := by
  cases f with
  | nx ρ => exact h ρ
  | ct ρ => exact h ρ
  | _ => exact mono_pure _
def loopS (P : S → Prop) (f : D → Env → Option Env) (b : Env → MS) : List D → Env → MS
  | [], ρ => fun s Q _ => P s ∧ Q (.nx ρ) s
  | d :: ds, ρ => fun s Q E => P s ∧ ∃ ρ1, f d ρ = some ρ1 ∧ bindM (b ρ1) (turnF (loopS P f b ds)) s Q E
theorem mono_loopS {P : S → Prop} {f : D → Env → Option Env} {b : Env → MS} (h : ∀ ρ, Mono (b ρ)) : ∀ (ds : List D) (ρ : Env), Mono (loopS P f b ds ρ)
  | [], ρ => fun s _ _ _ _ hq _ ⟨p, q⟩ => ⟨p, hq _ _ q⟩
  | d :: ds, ρ => fun s _ _ _ _ hq he ⟨p, ρ1, e, q⟩ => ⟨p, ρ1, e, mono_bind (h ρ1) (mono_turnF (mono_loopS h ds)) _ _ _ _ _ hq he q⟩
def forS (mi : Env → M Ex Src) (f : D → Env → Option Env) (b : Env → MS) : Env → MS := fun ρ => bindM (up ρ (mi ρ)) fun p => loopS p.P f b p.items ρ
theorem fs_for {tg : Expr} {body : List Stmt} {mi : Env → M Ex Src} {f : D → Env → Option Env} {b : Env → MS} (hp : PassesOwn (model X.prog X.w) X.A X.env X.xe) (hc : X.calm = true) (hi : FI g X W tg e mi) (hg : FG g X tg f) (hb : FB g X W body b)
    (hs : ∀ x, foldedSetIterable e X.env x = pure x := by intro _; rfl) : FS g X W (.For tg e body [] pos) (forS mi f b) := by
  refine ⟨PS.imp (ps_for hp hc hi.pi hg hb.ps hs) fun D σ H ⟨Z, F, st, ρ, E, N, q⟩ => ?_, fun ρ => mono_bind (mono_up (hi.mono ρ)) fun p => mono_loopS hb.mono _ _⟩
  refine ⟨Z, F, st, ρ, E, N, hi.mono ρ _ _ _ _ _ (fun p st2 q2 F2 H2 J e2 sim2 w => ?_) (fun _ _ x => x) q⟩
  have w := w Z fun _ _ h => h
  refine ⟨fun i m σ H => m = p.items.length - i ∧ i ≤ p.items.length ∧ ∃ F3 st3 ρ3, Same F2 F3 ∧ Now g W Z σ H F3 ρ3 st3 E ∧ loopS p.P f b (p.items.drop i) ρ3 st3 (ResF g Z F3 D) (Err E), ⟨_, rfl, Nat.zero_le _, F2, st2, ρ, Same.refl _, ⟨sim2, N.env.mono e2, N.lk.mono e2⟩, mono_loopS hb.mono _ _ _ _ _ _ _ (fun _ _ z => z.mono e2) (fun _ _ x => x) q2⟩, ?_⟩
  rintro i m σ1 H1 ⟨rfl, hi1, F3, st3, ρ3, e3, N3, q3⟩
  by_cases hlt : i < p.items.length
  · rw [List.drop_eq_getElem_cons hlt] at q3
    obtain ⟨pp, ρ4, hf, q3⟩ := q3
    refine .inr ⟨w.goes F3 H1 st3 i e3 N3.sim pp hlt, fun σ' H' => ∃ F5 st5 ρ5, Same F2 F5 ∧ Now g W Z σ' H' F5 ρ5 st5 E ∧ loopS p.P f b (p.items.drop (i + 1)) ρ5 st5 (ResF g Z F5 D) (Err E), fun σ' H' h => ⟨p.items.length - (i + 1), by omega, rfl, hlt, h⟩, fun x H' y => ?_⟩
    obtain ⟨F4, d, e4, sim4, hd, r⟩ := w.yields F3 H1 st3 i x H' e3 N3.sim pp hlt y
    have hd' : p.items[i] = d := by rw [List.getElem?_eq_getElem hlt] at hd; exact Option.some.inj hd
    rw [hd'] at hf
    refine ⟨Z, F4, st3, d, ρ3, ρ4, sim4, N3.env.mono e4, r, hf, fun σ2 env2 => ?_⟩
    refine ⟨Z, F4, st3, ρ4, E, ⟨sim4, env2, N3.lk.mono e4⟩, hb.mono ρ4 _ _ _ _ _ (fun fl s k => ?_) (fun _ _ x => x) q3⟩
    cases fl with
    | nx ρ5 => exact fun σ' F' H' e sim env => ⟨F', s, ρ5, (e3.trans e4).trans e, ⟨sim, env, N3.lk.mono (e4.trans e)⟩, mono_loopS hb.mono _ _ _ _ _ _ _ (fun _ _ z => z.mono (e4.trans e)) (fun _ _ x => x) k⟩
    | ct ρ5 => exact fun σ' F' H' e sim env => ⟨F', s, ρ5, (e3.trans e4).trans e, ⟨sim, env, N3.lk.mono (e4.trans e)⟩, mono_loopS hb.mono _ _ _ _ _ _ _ (fun _ _ z => z.mono (e4.trans e)) (fun _ _ x => x) k⟩
    | bk ρ5 => exact fun σ' F' H' e sim env => k σ' F' H' (e4.trans e) sim env
    | rt d => exact fun v F' H' e sim r => k v F' H' (e4.trans e) sim r
  · have ei : i = p.items.length := by omega
    subst ei
    rw [List.drop_length] at q3
    obtain ⟨pp, q3⟩ := q3
    exact .inl ⟨w.stops F3 H1 st3 e3 N3.sim pp, q3 σ1 F3 H1 (Same.refl _) N3.sim N3.env⟩
/-! ### while -/
def whileN (c : Env → M Ex Bool) (b : Env → MS) : Nat → Env → MS
  | 0, _ => failM
  | n + 1, ρ => bindM (up ρ (c ρ)) fun k => if k = true then bindM (b ρ) (turnF (whileN c b n)) else pureM (.nx ρ)
theorem mono_whileN {c : Env → M Ex Bool} {b : Env → MS} (hc : ∀ ρ, Mono (c ρ)) (hb : ∀ ρ, Mono (b ρ)) : ∀ (n : Nat) (ρ : Env), Mono (whileN c b n ρ)
  | 0, _ => mono_fail
  | n + 1, ρ => mono_bind (mono_up (hc ρ)) fun _ => mono_ite (mono_bind (hb ρ) (mono_turnF (mono_whileN hc hb n))) (mono_pure _)
def whileS (c : Env → M Ex Bool) (b : Env → MS) : Env → MS := fun ρ s Q E => ∃ n, whileN c b n ρ s Q E
theorem fs_while {body : List Stmt} {c : Env → M Ex Bool} {b : Env → MS} (hp : PassesOwn (model X.prog X.w) X.A X.env X.xe) (h : FT g X W e c) (hb : FB g X W body b) : FS g X W (.While e body [] pos) (whileS c b) := by
  refine ⟨PS.imp (ps_while hp h.pt hb.ps) fun D σ H ⟨Z, F, st, ρ, E, N, n, q⟩ => ?_, fun ρ s _ _ _ _ hq he ⟨n, q⟩ => ⟨n, mono_whileN h.mono hb.mono n ρ _ _ _ _ _ hq he q⟩⟩
  refine ⟨fun n σ H => ∃ F st ρ, Now g W Z σ H F ρ st E ∧ whileN c b n ρ st (ResF g Z F D) (Err E), ⟨n, F, st, ρ, N, q⟩, ?_⟩
  rintro m σ1 H1 ⟨F1, st1, ρ1, N1, q1⟩
  cases m with
  | zero => exact q1.elim
  | succ n =>
    refine tS.go (R1 := RB) N1 (h.mono ρ1) (fun _ => mono_ite (mono_bind (hb.mono ρ1) (mono_turnF (mono_whileN h.mono hb.mono n))) (mono_pure _)) q1 fun d v F st H1 e N r q => ?_
    cases r
    cases d with
    | true =>
      refine iteT ⟨fun σ' H' => ∃ F st ρ, Now g W Z σ' H' F ρ st E ∧ whileN c b n ρ st (ResF g Z F D) (Err E), fun σ' H' h => ⟨n, Nat.lt_succ_self n, h⟩, ?_⟩
      refine ⟨Z, F, st, ρ1, E, N, hb.mono ρ1 _ _ _ _ _ (fun fl s k => ?_) (fun _ _ x => x) q⟩
      cases fl with
      | nx ρ5 => exact fun σ' F' H' e sim env => ⟨F', s, ρ5, ⟨sim, env, N.lk.mono e⟩, mono_whileN h.mono hb.mono _ _ _ _ _ _ _ (fun _ _ z => z.mono e) (fun _ _ x => x) k⟩
      | ct ρ5 => exact fun σ' F' H' e sim env => ⟨F', s, ρ5, ⟨sim, env, N.lk.mono e⟩, mono_whileN h.mono hb.mono _ _ _ _ _ _ _ (fun _ _ z => z.mono e) (fun _ _ x => x) k⟩
      | bk ρ5 => exact k
      | rt d => exact k
    | false => exact iteF (q σ1 F H1 (Same.refl _) N.sim N.env)
/-! ### defs -/
/-- the promise of a mirror -/
def spD (g : G) (n : Nat) (m : List D → M Ex D) : Sp := fun vs H Q E => ∃ Z F st ds, vs.length = n ∧ Sim g Z st F H ∧ RelDs g F ds vs ∧ m ds st (Res g (RelD g) Z F Q) (fun x s => ∀ u d F' H', Same F F' → Sim g Z s F' H' → RelEx g F' u d x → E u d H')
def flD : Fl → M Ex D
  | .nx _ => pureM .non
  | .rt d => pureM d
  | _ => failM
/-- a body's mirror as a def's -/
def defM (n : Nat) (b : Env → MS) : List D → M Ex D := fun ds s Q E => b (ds.map some ++ List.replicate (n - ds.length) none) s (fun f s' => flD f s' Q E) (fun x s' => E x.1 s')
theorem renv_start {N : List Str} {vs : List V} {ds : List D} (h : RelDs g F ds vs) (n : Nat) (hn : N.length = n) : REnv g F (L2.start N vs) (ds.map some ++ List.replicate (n - ds.length) none) := by
  subst hn
  have hl := h.len
  refine ⟨by unfold L2.start; simp [hl], fun i d e => ?_⟩
  by_cases hi : i < ds.length
  · rw [List.getElem?_append_left (by simpa using hi)] at e
    unfold L2.start
    rw [List.getElem?_append_left (by simp; omega)]
    rw [List.getElem?_map] at e ⊢
    cases q : ds[i]? with
    | none => rw [q] at e; cases e
    | some x =>
      rw [q] at e
      simp at e
      subst e
      obtain ⟨v, h1, h2⟩ := h.get q
      exact ⟨v, by rw [h1]; rfl, h2⟩
  · rw [List.getElem?_append_right (by simpa using hi)] at e
    have := List.mem_of_getElem? e
    simp at this
theorem mono_flD (f : Fl) : Mono (flD f) := by cases f <;> first | exact mono_pure _ | exact mono_fail
theorem mono_defM {n : Nat} {b : Env → MS} (h : ∀ ρ, Mono (b ρ)) (ds : List D) : Mono (defM n b ds) := fun s _ _ _ _ hq he => h _ _ _ _ _ _ (fun f s' => mono_flD f s' _ _ _ _ hq he) fun _ _ => he _ _
theorem fn_okD {P : Program} {w : World} {K : PySem.W.Frag} {mg : Str → Option Value} {base : Heap} {x qual : Str} {params : Arguments} {body : List Stmt} {scope : Scope} {dvs : List V} {kws : List (Str × V)} {f : Addr} {fd : FuncData} {N ps : List Str} {k n : Nat} {b : Env → MS}
    (Fu : FunD K x qual params body scope dvs kws f fd) (Sc : FnScope N ps scope) (hn : N.length = n)
    (hb : ∀ (cdv : Value) (A : Around) (outer : List PySem.Env) (s : Shared) (H : Hp) (E : XK), Room k (A.deeper (PyProof.Rows.envOfC qual scope s.heap.objs.size f cdv)) → Takes (cxOf (L2.CX P w) P w K mg base N qual scope f cdv A outer s H E) (fun u d _ H => E u d H) →
      FB g (cxOf (L2.CX P w) P w K mg base N qual scope f cdv A outer s H E) (fun u d _ H => E u d H) body b) : FnOk P w K mg base (L2.CX P w) (k + 1) f fd ps (spD g ps.length (defM n b)) := by
  refine Fu.ok Sc (fun vs H Q E ⟨Z, F, st, ds, hl, _⟩ => hl) fun cdv A outer s H vs Q E hr ⟨Z, F, st, ds, hl, sim, r, q⟩ => ⟨_, (hb cdv A outer s H E hr (takes_of rfl rfl rfl rfl)).ps, ?_⟩
  refine ⟨Z, F, st, _, fun x _ s => ∀ u d F' H', Same F F' → Sim g Z s F' H' → RelEx g F' u d x → E u d H', ⟨sim, renv_start r n hn, fun x ρ st' F' H' u d σ e sim' _ rx h => h u d F' H' e sim' rx⟩, ?_⟩
  refine (hb cdv A outer s H E hr (takes_of rfl rfl rfl rfl)).mono _ _ _ _ _ _ (fun fl s' h => ?_) (fun _ _ h => h) q
  cases fl with
  | nx ρ' => exact fun σ' F' H' e sim' _ => h .non F' H' e sim' relD_non
  | rt d => exact h
  | bk _ => exact h.elim
  | ct _ => exact h.elim
end DL

/-! ### operators -/
namespace DL
open PySem L2
variable {g : G} {Z F F' H H' : Hp} {W : WX} {σ : St} {ρ : Env} {st : S} {α β γ δ : Type} {X : Cx} {e e1 e2 e3 : Expr} {pos : Pos}
def obL : Option Ob → Option (List D)
  | some (.lst xs) => some xs
  | _ => none
/-- a list's or tuple's items -/
def seqD (st : S) : D → Option (List D)
  | .tup xs => some xs
  | .lst xs => some xs
  | .ref a => obL (st.map a)
  | _ => none
theorem Sim.seq {d : D} {v : V} {xs : List D} (s : Sim g Z st F H) (r : RelD g F d v) (h : seqD st d = some xs) : ∃ a vs, v = .ref a ∧ (SqL g.K H a vs ∨ SqT g.K H a vs) ∧ RelDs g F xs vs := by
  cases d with
  | tup ds =>
    cases (Option.some.inj h)
    unfold RelD at r
    obtain ⟨a, vs, rfl, h1, h2⟩ := r
    exact ⟨a, vs, rfl, .inr (sqT_mono s.same h1), h2⟩
  | lst ds =>
    cases (Option.some.inj h)
    unfold RelD at r
    obtain ⟨a, vs, rfl, h1, h2⟩ := r
    exact ⟨a, vs, rfl, .inl (SqL.of (s.same _ _ h1)), h2⟩
  | ref a =>
    unfold RelD at r
    subst r
    replace h : obL (st.map a) = some xs := h
    cases e : st.map a with
    | none => rw [e] at h; cases h
    | some o =>
      rw [e] at h
      cases o with
      | lst ds =>
        cases (Option.some.inj h)
        obtain ⟨_, vs, hv, hr⟩ := s.ob a _ e
        exact ⟨a, vs, rfl, .inl (SqL.of hv), hr⟩
      | _ => cases h
  | _ => cases h
abbrev P2 := D → D → S → Option D
def r2 (g : G) (p : P2) : R2 := fun x y H Q => ∃ Z F st dx dy d, Sim g Z st F H ∧ RelD g F dx x ∧ RelD g F dy y ∧ p dx dy st = some d ∧ Res g (RelD g) Z F Q d st
def OpD (g : G) (X : Cx) (f : Value → Value → Sem Value) (p : P2) : Prop := OpR X f (r2 g p)
theorem OpR.imp {f : Value → Value → Sem Value} {r r' : R2} (h : OpR X f r) (k : ∀ x y H Q, r' x y H Q → r x y H Q) : OpR X f r' := fun pins s σ H x y v u Q I rx ry q => h pins s σ H x y v u Q I rx ry (k _ _ _ _ q)
/-- one of several rules, by the data -/
theorem OpD.of {f : Value → Value → Sem Value} {p : P2} (h : ∀ dx dy (Z F : Hp) (st : S) d, p dx dy st = some d → ∃ r : R2, OpR X f r ∧ ∀ x y H Q, Sim g Z st F H → RelD g F dx x → RelD g F dy y → Res g (RelD g) Z F Q d st → r x y H Q) : OpD g X f p := fun pins s σ H x y v u Q I rx ry ⟨Z, F, st, dx, dy, d, sim, hx, hy, e, q⟩ => by
  obtain ⟨r, o, k⟩ := h dx dy Z F st d e
  exact o pins s σ H x y v u Q I rx ry (k x y H Q sim hx hy q)
def op2 (p : P2) (a b : Env → M Ex D) : Env → M Ex D := fun ρ => bindM (a ρ) fun x => bindM (b ρ) fun y => seeM (p x y)
theorem mono_op2 {p : P2} {a b : Env → M Ex D} (ha : ∀ ρ, Mono (a ρ)) (hb : ∀ ρ, Mono (b ρ)) (ρ : Env) : Mono (op2 p a b ρ) := mono_bind (ha ρ) fun _ => mono_bind (hb ρ) fun _ => mono_see _
/-- the two parts and the operator -/
theorem tX.op2 {p : P2} {a b : Env → M Ex D} {Q : VK} (ha : ∀ ρ, Mono (a ρ)) (hb : ∀ ρ, Mono (b ρ)) (h : tX g (RelD g) W (DL.op2 p a b) σ H Q) : tOp (r2 g p) (tX g (RelD g) W a) (tX g (RelD g) W b) σ H Q := by
  obtain ⟨Z, F, st, ρ, E, N, q⟩ := h
  refine tX.go N (ha ρ) (fun _ => mono_bind (hb ρ) fun _ => mono_see _) q fun dx x F st H1 e N rx q => ?_
  refine tX.go (R1 := RelD g) N (hb ρ) (fun _ => mono_see _) q fun dy y F2 st H2 e2 N ry q => ?_
  obtain ⟨d, ed, q⟩ := q
  exact ⟨Z, F2, st, dx, dy, d, N.sim, rx.mono e2, ry, ed, q⟩
theorem fe_op {op : Operator} {p : P2} {a b : Env → M Ex D} (ho : OpD g X (binaryOp op) p) (ha : FE g X W e1 a) (hb : FE g X W e2 b) : FE g X W (.BinOp e1 op e2 pos) (op2 p a b) :=
  ⟨PE.imp (pe_op ho ha.pe hb.pe) fun _ _ _ q => tX.op2 ha.mono hb.mono q, mono_op2 ha.mono hb.mono⟩
theorem fe_cmp {op : CmpOp} {p : P2} {a b : Env → M Ex D} (ho : OpD g X (compareOp op) p) (ha : FE g X W e1 a) (hb : FE g X W e2 b) (hm : behindInMarks op e2 = false) : FE g X W (.Compare e1 [op] [e2] pos) (op2 p a b) :=
  ⟨PE.imp (pe_cmpR ho ha.pe hb.pe hm) fun _ _ _ q => tX.op2 ha.mono hb.mono q, mono_op2 ha.mono hb.mono⟩
theorem ft_cmp {op : CmpOp} {p : P2} {a b : Env → M Ex D} (ho : OpD g X (compareOp op) p) (ha : FE g X W e1 a) (hb : FE g X W e2 b) (hm : behindInMarks op e2 = false) : FT g X W (.Compare e1 [op] [e2] pos) (liftT (op2 p a b)) :=
  ⟨PT.imp (pt_cmpR ho ha.pe hb.pe hm) fun _ _ _ q => tX.op2 ha.mono hb.mono (tX.test (mono_op2 ha.mono hb.mono) q), mono_liftT (mono_op2 ha.mono hb.mono)⟩
theorem fe_ix {p : P2} {a b : Env → M Ex D} (ho : IxR X (r2 g p)) (ha : FE g X W e1 a) (hb : FE g X W e2 b) (hs : PlainIx e2) : FE g X W (.Subscript e1 e2 pos) (op2 p a b) :=
  ⟨PE.imp (pe_ix ho ha.pe hb.pe hs) fun _ _ _ q => tX.op2 ha.mono hb.mono q, mono_op2 ha.mono hb.mono⟩
def chainE (p p' : P2) (a b c : Env → M Ex D) : Env → M Ex D := fun ρ => bindM (a ρ) fun x => bindM (b ρ) fun y => bindM (seeM (p x y)) fun z => bindM (asB z) fun k => if k = true then bindM (c ρ) fun w => seeM (p' y w) else pureM (.bl false)
theorem mono_chainE {p p' : P2} {a b c : Env → M Ex D} (ha : ∀ ρ, Mono (a ρ)) (hb : ∀ ρ, Mono (b ρ)) (hc : ∀ ρ, Mono (c ρ)) (ρ : Env) : Mono (chainE p p' a b c ρ) :=
  mono_bind (ha ρ) fun _ => mono_bind (hb ρ) fun _ => mono_bind (mono_see _) fun _ => mono_bind (mono_asB _) fun _ => mono_ite (mono_bind (hc ρ) fun _ => mono_see _) (mono_pure _)
theorem tX.chain {p p' : P2} {a b c : Env → M Ex D} {Q : VK} (ha : ∀ ρ, Mono (a ρ)) (hb : ∀ ρ, Mono (b ρ)) (hc : ∀ ρ, Mono (c ρ)) (h : tX g (RelD g) W (chainE p p' a b c) σ H Q) :
    tChain (r2 g p) (r2 g p') (tX g (RelD g) W a) (tX g (RelD g) W b) (tX g (RelD g) W c) σ H Q := by
  obtain ⟨Z, F, st, ρ, E, N, q⟩ := h
  have m1 : ∀ y z, Mono (bindM (asB z) fun k => if k = true then bindM (c ρ) fun w => seeM (p' y w) else pureM (.bl false)) := fun y z => mono_bind (mono_asB _) fun _ => mono_ite (mono_bind (hc ρ) fun _ => mono_see _) (mono_pure _)
  refine tX.go N (ha ρ) (fun _ => mono_bind (hb ρ) fun _ => mono_bind (mono_see _) (m1 _)) q fun dx x F st H1 e N rx q => ?_
  refine tX.go (R1 := RelD g) N (hb ρ) (fun _ => mono_bind (mono_see _) (m1 _)) q fun dy y F2 st H2 e2 N ry q => ?_
  obtain ⟨d, ed, q⟩ := q
  refine ⟨Z, F2, st, dx, dy, d, N.sim, rx.mono e2, ry, ed, fun v F3 H3 e3 sim r => ?_⟩
  obtain ⟨k, rfl, q⟩ := asB_inv q
  unfold RelD at r
  refine ⟨k, r, ?_⟩
  have N3 := N.step e3 sim
  cases k with
  | true =>
    refine iteT (tX.go (R1 := RelD g) N3 (hc ρ) (fun _ => mono_see _) (mono_bind (hc ρ) (fun _ => mono_see _) _ _ _ _ _ (fun _ _ z => z.mono e3) (fun _ _ x => x) q) fun dw w F4 st H4 e4 N ry2 q => ?_)
    obtain ⟨d, ed, q⟩ := q
    exact ⟨Z, F4, st, dy, dw, d, N.sim, (ry.mono e3).mono e4, ry2, ed, q⟩
  | false => exact iteF (q (.bl false) F3 H3 e3 sim relD_bl)
theorem ft_chain {op op' : CmpOp} {p p' : P2} {a b c : Env → M Ex D} (ho : OpD g X (compareOp op) p) (ho' : OpD g X (compareOp op') p') (ha : FE g X W e1 a) (hb : FE g X W e2 b) (hc : FE g X W e3 c)
    (hm : lastMarks [op, op'] [e2, e3] = false := by with_unfolding_all rfl) : FT g X W (.Compare e1 [op, op'] [e2, e3] pos) (liftT (chainE p p' a b c)) :=
  ⟨PT.imp (pt_chain ho ho' ha.pe hb.pe hc.pe hm) fun _ _ _ q => tX.chain ha.mono hb.mono hc.mono (tX.test (mono_chainE ha.mono hb.mono hc.mono) q), mono_liftT (mono_chainE ha.mono hb.mono hc.mono)⟩
theorem fe_chain {op op' : CmpOp} {p p' : P2} {a b c : Env → M Ex D} (ho : OpD g X (compareOp op) p) (ho' : OpD g X (compareOp op') p') (ha : FE g X W e1 a) (hb : FE g X W e2 b) (hc : FE g X W e3 c)
    (hm : lastMarks [op, op'] [e2, e3] = false := by with_unfolding_all rfl) : FE g X W (.Compare e1 [op, op'] [e2, e3] pos) (chainE p p' a b c) :=
  ⟨PE.imp (pe_chain ho ho' ha.pe hb.pe hc.pe hm) fun _ _ _ q => tX.chain ha.mono hb.mono hc.mono q, mono_chainE ha.mono hb.mono hc.mono⟩
/-! ### ints -/
def intD (c : Int → Int → Bool) (f : Int → Int → D) : P2 := fun x y _ => match x, y with
  | .int i, .int j => if c i j then some (f i j) else none
  | _, _ => none
theorem intD_inv {c : Int → Int → Bool} {f : Int → Int → D} {x y d : D} (h : intD c f x y st = some d) : ∃ i j, x = .int i ∧ y = .int j ∧ c i j = true ∧ d = f i j := by
  unfold intD at h
  split at h
  · rename_i i j
    cases q : c i j with
    | true => rw [q] at h; exact ⟨i, j, rfl, rfl, q, (Option.some.inj h).symm⟩
    | false => rw [q] at h; cases h
  · cases h
theorem opD_int {f : Value → Value → Sem Value} {c : Int → Int → Bool} {C : Int → Int → Prop} {k : Int → Int → V} {kd : Int → Int → D} (h : OpR X f (rI C k)) (hc : ∀ i j, c i j = true → C i j) (hk : ∀ F i j, RelD g F (kd i j) (k i j)) : OpD g X f (intD c kd) :=
  OpR.imp h fun x y H Q ⟨Z, F, st, dx, dy, d, sim, hx, hy, e, q⟩ => by
    obtain ⟨i, j, rfl, rfl, hcc, rfl⟩ := intD_inv e
    unfold RelD at hx hy
    exact ⟨i, j, hx, hy, hc i j hcc, q _ F H (Same.refl _) sim (hk F i j)⟩
theorem opD_int0 {f : Value → Value → Sem Value} {k : Int → Int → V} {kd : Int → Int → D} (h : OpR X f (rI0 k)) (hk : ∀ F i j, RelD g F (kd i j) (k i j)) : OpD g X f (intD (fun _ _ => true) kd) :=
  OpR.imp h fun x y H Q ⟨Z, F, st, dx, dy, d, sim, hx, hy, e, q⟩ => by
    obtain ⟨i, j, rfl, rfl, hcc, rfl⟩ := intD_inv e
    unfold RelD at hx hy
    exact ⟨i, j, hx, hy, q _ F H (Same.refl _) sim (hk F i j)⟩
def subD : P2 := intD (fun _ _ => true) fun i j => .int (i - j)
def mulD : P2 := intD (fun i j => decide (-(2 ^ 64) < i ∧ i < 2 ^ 64) || decide (-(2 ^ 64) < j ∧ j < 2 ^ 64)) fun i j => .int (i * j)
def modD : P2 := intD (fun _ j => decide (0 < j)) fun i j => .int (i % j)
def divD : P2 := intD (fun _ j => decide (0 < j) && decide (j.natAbs.log2 < 9000)) fun i j => .int (i / j)
def powD : P2 := intD (fun i j => decide (0 ≤ j ∧ j ≤ 1000000 ∧ i.natAbs < 2 ^ 64)) fun i j => .int (i ^ j.toNat)
def ltD : P2 := intD (fun _ _ => true) fun i j => .bl (decide (i < j))
def leD : P2 := intD (fun _ _ => true) fun i j => .bl (decide (i ≤ j))
def gtD : P2 := intD (fun _ _ => true) fun i j => .bl (decide (j < i))
def geD : P2 := intD (fun _ _ => true) fun i j => .bl (decide (j ≤ i))
theorem od_sub : OpD g X (binaryOp .Sub) subD := opD_int0 op_sub fun _ _ _ => relD_int
theorem od_mul : OpD g X (binaryOp .Mult) mulD := opD_int op_mul (fun i j h => by
  rw [Bool.or_eq_true, decide_eq_true_eq, decide_eq_true_eq] at h; exact h) fun _ _ _ => relD_int
theorem od_mod : OpD g X (binaryOp .Mod) modD := opD_int op_mod (fun i j h => of_decide_eq_true h) fun _ _ _ => relD_int
theorem od_div : OpD g X (binaryOp .FloorDiv) divD := opD_int op_fdivW (fun i j h => by rw [Bool.and_eq_true, decide_eq_true_eq, decide_eq_true_eq] at h; exact h) fun _ _ _ => relD_int
theorem od_pow : OpD g X (binaryOp .Pow) powD := opD_int op_pow (fun i j h => show 0 ≤ j ∧ j ≤ 1000000 ∧ i.natAbs < 2 ^ 64 from of_decide_eq_true h) fun _ _ _ => relD_int
theorem od_lt : OpD g X (compareOp .Lt) ltD := opD_int0 op_lt fun _ _ _ => relD_bl
theorem od_le : OpD g X (compareOp .LtE) leD := opD_int0 op_le fun _ _ _ => relD_bl
theorem od_gt : OpD g X (compareOp .Gt) gtD := opD_int0 op_gt fun _ _ _ => relD_bl
theorem od_ge : OpD g X (compareOp .GtE) geD := opD_int0 op_ge fun _ _ _ => relD_bl
/-! ### + -/
def addD : P2 := fun x y st => match x, y with
  | .int i, .int j => some (.int (i + j))
  | .str i, .str j => if i.length + j.length ≤ sizeLine then some (.str (i ++ j)) else none
  | .tup xs, .tup ys => if xs.length + ys.length ≤ sizeLine then some (.tup (xs ++ ys)) else none
  | _, _ => none
theorem od_add (hK : X.K = g.K) : OpD g X (binaryOp .Add) addD := OpD.of fun dx dy Z F st d e => by
  unfold addD at e
  split at e
  · cases e
    exact ⟨_, op_add, fun x y H Q sim hx hy q => by unfold RelD at hx hy; exact ⟨_, _, hx, hy, q _ F H (Same.refl _) sim relD_int⟩⟩
  · rename_i i j
    by_cases hl : i.length + j.length ≤ sizeLine
    · rw [if_pos hl] at e; cases e
      exact ⟨_, op_add_str, fun x y H Q sim hx hy q => by unfold RelD at hx hy; exact ⟨_, _, hx, hy, hl, q _ F H (Same.refl _) sim relD_str⟩⟩
    · rw [if_neg hl] at e; cases e
  · rename_i xs ys
    by_cases hl : xs.length + ys.length ≤ sizeLine
    · rw [if_pos hl] at e; cases e
      refine ⟨_, op_catA, fun x y H Q sim hx hy q => ?_⟩
      unfold RelD at hx hy
      obtain ⟨a, vs, rfl, h1, r1⟩ := hx
      obtain ⟨b, us, rfl, h2, r2⟩ := hy
      rw [hK]
      refine ⟨a, b, vs, us, rfl, rfl, sqT_mono sim.same h1, sqT_mono sim.same h2, by rw [r1.len, r2.len]; exact hl, fun h0 => ?_, fun h0 h3 => ?_, fun h0 h3 p np => ?_⟩
      · subst h0
        have e0 : xs = [] := by
          have := r1.len
          cases xs with
          | nil => rfl
          | cons _ _ => simp at this
        subst e0
        exact q _ F H (Same.refl _) sim (by unfold RelD; exact ⟨b, us, rfl, h2, r2⟩)
      · subst h3
        have e0 : ys = [] := by
          have := r2.len
          cases ys with
          | nil => rfl
          | cons _ _ => simp at this
        subst e0
        rw [List.append_nil] at q
        exact q _ F H (Same.refl _) sim (by unfold RelD; exact ⟨a, vs, rfl, h1, r1⟩)
      · have s := same_upd (o := .tup (vs ++ us)) (sim.free np).1
        exact q _ _ _ s (sim.new np) (by unfold RelD; exact ⟨p, vs ++ us, rfl, SqT.of upd_same, (r1.append r2).mono s⟩)
    · rw [if_neg hl] at e; cases e
  · cases e
end DL

/-! ### comparisons, items, fields, builtins -/
namespace DL
open PySem L2
variable {g : G} {Z F F' H H' : Hp} {W : WX} {σ : St} {ρ : Env} {st : S} {α β γ δ : Type} {X : Cx} {e e1 e2 e3 : Expr} {pos : Pos}
/-! ### data as the library has it -/
mutual
def toPy : D → Option PyData
  | .non => some .none
  | .bl b => some (.bool b)
  | .int i => some (.int i)
  | .str z => some (.str z)
  | .tup xs => (toPys xs).map .tuple
  | .lst xs => (toPys xs).map .list
  | _ => none
def toPys : List D → Option (List PyData)
  | [] => some []
  | x :: xs => (toPy x).bind fun p => (toPys xs).map fun ps => p :: ps
end
mutual
theorem relD_dp (s : Same F H) : ∀ {d : D} {v : V} {p : PyData}, toPy d = some p → RelD g F d v → Dp g.K H v p
  | .non, _, _, e, r => by unfold toPy at e; unfold RelD at r; cases e; subst r; exact .non
  | .bl b, _, _, e, r => by unfold toPy at e; unfold RelD at r; cases e; subst r; exact .bl b
  | .int i, _, _, e, r => by unfold toPy at e; unfold RelD at r; cases e; subst r; exact .int i
  | .str z, _, _, e, r => by unfold toPy at e; unfold RelD at r; cases e; subst r; exact .str z
  | .tup xs, _, _, e, r => by
    unfold toPy at e; unfold RelD at r
    obtain ⟨ps, h1, rfl⟩ := Option.map_eq_some_iff.mp e
    obtain ⟨a, vs, rfl, h2, h3⟩ := r
    exact .tup (sqT_mono s h2) (relDs_dp s h1 h3)
  | .lst xs, _, _, e, r => by
    unfold toPy at e; unfold RelD at r
    obtain ⟨ps, h1, rfl⟩ := Option.map_eq_some_iff.mp e
    obtain ⟨a, vs, rfl, h2, h3⟩ := r
    exact .lst (SqL.of (s _ _ h2)) (relDs_dp s h1 h3)
  | .dic _ _, _, _, e, _ => by unfold toPy at e; cases e
  | .ins _ _ _, _, _, e, _ => by unfold toPy at e; cases e
  | .ref _, _, _, e, _ => by unfold toPy at e; cases e
  | .cls _, _, _, e, _ => by unfold toPy at e; cases e
  | .cst _, _, _, e, _ => by unfold toPy at e; cases e
  | .ty _, _, _, e, _ => by unfold toPy at e; cases e
  | .scr, _, _, e, _ => by unfold toPy at e; cases e
theorem relDs_dp (s : Same F H) : ∀ {ds : List D} {vs : List V} {ps : List PyData}, toPys ds = some ps → RelDs g F ds vs → DpAll g.K H vs ps
  | [], _, _, e, r => by unfold toPys at e; cases e; rw [r.nil_inv]; exact .nil
  | d :: ds, _, _, e, r => by
    unfold toPys at e
    obtain ⟨p, h1, e⟩ := Option.bind_eq_some_iff.mp e
    obtain ⟨ps, h2, rfl⟩ := Option.map_eq_some_iff.mp e
    obtain ⟨v, vs, rfl, r1, r2⟩ := r.cons_inv
    exact .cons (relD_dp s h1 r1) (relDs_dp s h2 r2)
end
theorem Sim.lst {a : Addr} {xs : List D} (s : Sim g Z st F H) (k : obL (st.map a) = some xs) : ∃ vs, H a = some (.lst vs) ∧ RelDs g F xs vs := by
  cases m : st.map a with
  | none => rw [m] at k; cases k
  | some o =>
    rw [m] at k
    cases o with
    | lst ds =>
      cases (Option.some.inj k)
      obtain ⟨_, us, hv, hr⟩ := s.ob a _ m
      exact ⟨us, hv, hr⟩
    | _ => cases k
/-- a place's list as a datum -/
def viewD (st : S) : D → D
  | .ref a => match obL (st.map a) with
    | some xs => .lst xs
    | none => .ref a
  | d => d
theorem Sim.view_dp {d : D} {v : V} {p : PyData} (s : Sim g Z st F H) (r : RelD g F d v) (e : toPy (viewD st d) = some p) : Dp g.K H v p := by
  cases d with
  | ref a =>
    cases k : obL (st.map a) with
    | none =>
      have : viewD st (.ref a) = .ref a := by show (match obL (st.map a) with | some xs => D.lst xs | none => .ref a) = _; rw [k]
      rw [this] at e
      exact relD_dp s.same e r
    | some xs =>
      have : viewD st (.ref a) = .lst xs := by show (match obL (st.map a) with | some xs => D.lst xs | none => .ref a) = _; rw [k]
      rw [this] at e
      unfold toPy at e
      obtain ⟨ps, h1, rfl⟩ := Option.map_eq_some_iff.mp e
      unfold RelD at r
      subst r
      obtain ⟨vs, hv, h3⟩ := s.lst k
      have hl : SqL g.K H a vs := SqL.of hv
      exact .lst hl (relDs_dp s.same h1 h3)
  | _ => exact relD_dp s.same e r
/-! ### == and != -/
def scalV : D → Option V
  | .non => some .non
  | .bl b => some (.bl b)
  | .int i => some (.int i)
  | .str z => some (.str z)
  | _ => none
theorem scalV_rel {d : D} {v u : V} (e : scalV d = some u) (r : RelD g F d v) : v = u := by
  cases d <;> first | (cases e; done) | (cases (Option.some.inj e); unfold RelD at r; exact r)
def eqS (x y : D) : Option Bool := match scalV x, scalV y with
  | some a, some b => if scal a b = true then some (decide (a = b)) else none
  | _, _ => none
def eqP (st : S) (x y : D) : Option Bool := match toPy (viewD st x), toPy (viewD st y) with
  | some p, some q => if SeqAt.shaped p = true ∧ SeqAt.shaped q = true then some (PyData.eqv p q) else none
  | _, _ => none
def eqB (st : S) (x y : D) : Option Bool := match eqS x y with
  | some b => some b
  | none => eqP st x y
theorem eqS_inv {x y : D} {b : Bool} (h : eqS x y = some b) : ∃ u v, scalV x = some u ∧ scalV y = some v ∧ scal u v = true ∧ b = decide (u = v) := by
  unfold eqS at h
  split at h
  · rename_i u v hu hv
    split at h
    · rename_i hs
      cases h
      exact ⟨u, v, hu, hv, hs, rfl⟩
    · cases h
  · cases h
theorem eqP_inv {x y : D} {b : Bool} (h : eqP st x y = some b) : ∃ p q, toPy (viewD st x) = some p ∧ toPy (viewD st y) = some q ∧ SeqAt.shaped p = true ∧ SeqAt.shaped q = true ∧ b = PyData.eqv p q := by
  unfold eqP at h
  split at h
  · rename_i u v hu hv
    split at h
    · rename_i hs
      cases h
      exact ⟨u, v, hu, hv, hs.1, hs.2, rfl⟩
    · cases h
  · cases h
def eqD : P2 := fun x y st => (eqB st x y).map .bl
def neD : P2 := fun x y st => (eqB st x y).map fun b => .bl (!b)
theorem od_eq (hK : X.K = g.K) (hu : X.A.units + 64 < cLine) : OpD g X (compareOp .Eq) eqD := OpD.of fun dx dy Z F st d e => by
  obtain ⟨b, hb, rfl⟩ := Option.map_eq_some_iff.mp e
  unfold eqB at hb
  split at hb
  · rename_i c hc
    cases hb
    obtain ⟨u, v, h1, h2, h3, rfl⟩ := eqS_inv hc
    exact ⟨_, op_eq, fun x y H Q sim hx hy q => by
      rw [scalV_rel h1 hx, scalV_rel h2 hy]
      exact ⟨h3, q _ F H (Same.refl _) sim relD_bl⟩⟩
  · obtain ⟨p, q', h1, h2, h3, h4, rfl⟩ := eqP_inv hb
    exact ⟨_, op_eqD hu, fun x y H Q sim hx hy q => by
      rw [hK]
      exact ⟨p, q', sim.view_dp hx h1, sim.view_dp hy h2, h3, h4, q _ F H (Same.refl _) sim relD_bl⟩⟩
theorem od_ne (hK : X.K = g.K) (hu : X.A.units + 64 < cLine) : OpD g X (compareOp .NotEq) neD := OpD.of fun dx dy Z F st d e => by
  obtain ⟨b, hb, rfl⟩ := Option.map_eq_some_iff.mp e
  unfold eqB at hb
  split at hb
  · rename_i c hc
    cases hb
    obtain ⟨u, v, h1, h2, h3, rfl⟩ := eqS_inv hc
    exact ⟨_, op_ne, fun x y H Q sim hx hy q => by
      rw [scalV_rel h1 hx, scalV_rel h2 hy]
      exact ⟨h3, q _ F H (Same.refl _) sim relD_bl⟩⟩
  · obtain ⟨p, q', h1, h2, h3, h4, rfl⟩ := eqP_inv hb
    exact ⟨_, op_neD hu, fun x y H Q sim hx hy q => by
      rw [hK]
      exact ⟨p, q', sim.view_dp hx h1, sim.view_dp hy h2, h3, h4, q _ F H (Same.refl _) sim relD_bl⟩⟩
/-! ### is None -/
def isNon : D → Bool
  | .non => true
  | _ => false
theorem relD_non_iff {d : D} {v : V} (r : RelD g F d v) : decide (v = .non) = isNon d := by
  cases d <;> unfold RelD at r <;> first
    | (subst r; rfl)
    | (obtain ⟨_, _, rfl, _⟩ := r; rfl)
    | (obtain ⟨_, _, _, rfl, _⟩ := r; rfl)
def isD : P2 := fun x y _ => match y with
  | .non => some (.bl (isNon x))
  | _ => none
def isntD : P2 := fun x y _ => match y with
  | .non => some (.bl (!isNon x))
  | _ => none
theorem od_is : OpD g X (compareOp .Is) isD := OpR.imp op_isN fun x y H Q ⟨Z, F, st, dx, dy, d, sim, hx, hy, e, q⟩ => by
  cases dy with
  | non =>
    cases (Option.some.inj e)
    unfold RelD at hy
    refine ⟨hy, ?_⟩
    rw [relD_non_iff hx]
    exact q _ F H (Same.refl _) sim relD_bl
  | _ => cases e
theorem od_isnt : OpD g X (compareOp .IsNot) isntD := OpR.imp op_notN fun x y H Q ⟨Z, F, st, dx, dy, d, sim, hx, hy, e, q⟩ => by
  cases dy with
  | non =>
    cases (Option.some.inj e)
    unfold RelD at hy
    refine ⟨hy, ?_⟩
    rw [relD_non_iff hx]
    exact q _ F H (Same.refl _) sim relD_bl
  | _ => cases e
/-! ### in -/
def scalsV : List D → Option (List V)
  | [] => some []
  | d :: ds => (scalV d).bind fun v => (scalsV ds).map fun vs => v :: vs
theorem scalsV_rel : ∀ {ds : List D} {vs us : List V}, scalsV ds = some us → RelDs g F ds vs → vs = us
  | [], _, _, e, r => by cases e; exact r.nil_inv
  | d :: ds, _, _, e, r => by
    obtain ⟨v, h1, e⟩ := Option.bind_eq_some_iff.mp e
    obtain ⟨vs, h2, rfl⟩ := Option.map_eq_some_iff.mp e
    obtain ⟨w, ws, rfl, r1, r2⟩ := r.cons_inv
    rw [scalV_rel h1 r1, scalsV_rel h2 r2]
theorem scalV_flat {d : D} {v : V} (e : scalV d = some v) : flatV v = true := by
  cases d <;> first | (cases e; done) | (cases (Option.some.inj e); rfl)
theorem scalsV_flat : ∀ {ds : List D} {us : List V}, scalsV ds = some us → us.all flatV = true
  | [], _, e => by cases e; rfl
  | d :: ds, _, e => by
    obtain ⟨v, h1, e⟩ := Option.bind_eq_some_iff.mp e
    obtain ⟨vs, h2, rfl⟩ := Option.map_eq_some_iff.mp e
    rw [List.all_cons, scalV_flat h1, scalsV_flat h2]; rfl
/-- a sign in a text; a scalar among scalars -/
def inB (st : S) (x y : D) : Option Bool := match x, y with
  | .str s, .str z => match s.cps.toList with
    | [c] => some (decide (c ∈ z.cps.toList))
    | _ => none
  | x, y => (scalV x).bind fun v => (seqD st y).bind fun ds => (scalsV ds).map fun vs => inV v vs
theorem inB_inv {x y : D} {b : Bool} (h : inB st x y = some b) : (∃ s z c, x = .str s ∧ y = .str z ∧ s = ⟨#[c]⟩ ∧ b = decide (c ∈ z.cps.toList)) ∨ ∃ v ds vs, scalV x = some v ∧ seqD st y = some ds ∧ scalsV ds = some vs ∧ b = inV v vs := by
  unfold inB at h
  split at h
  · rename_i s z
    split at h
    · rename_i c hc
      cases h
      refine .inl ⟨s, z, c, rfl, rfl, ?_, rfl⟩
      obtain ⟨a⟩ := s
      obtain ⟨l⟩ := a
      simp at hc
      subst hc
      rfl
    · cases h
  · obtain ⟨v, h1, h⟩ := Option.bind_eq_some_iff.mp h
    obtain ⟨ds, h2, h⟩ := Option.bind_eq_some_iff.mp h
    obtain ⟨vs, h3, rfl⟩ := Option.map_eq_some_iff.mp h
    exact .inr ⟨v, ds, vs, h1, h2, h3, rfl⟩
def inD : P2 := fun x y st => (inB st x y).map .bl
def notInD : P2 := fun x y st => (inB st x y).map fun b => .bl (!b)
theorem od_in (hK : X.K = g.K) : OpD g X (compareOp .In) inD := OpD.of fun dx dy Z F st d e => by
  obtain ⟨b, hb, rfl⟩ := Option.map_eq_some_iff.mp e
  rcases inB_inv hb with ⟨s, z, c, rfl, rfl, rfl, rfl⟩ | ⟨v, ds, vs, h1, h2, h3, rfl⟩
  · exact ⟨_, op_in_sign, fun x y H Q sim hx hy q => by unfold RelD at hx hy; exact ⟨c, z, hx, hy, q _ F H (Same.refl _) sim relD_bl⟩⟩
  · refine ⟨_, op_in_seq, fun x y H Q sim hx hy q => ?_⟩
    obtain ⟨a, us, rfl, hs, hr⟩ := sim.seq hy h2
    rw [scalV_rel h1 hx]
    obtain rfl := scalsV_rel h3 hr
    rw [hK]
    exact ⟨a, us, rfl, hs, scalV_flat h1, scalsV_flat h3, q _ F H (Same.refl _) sim relD_bl⟩
theorem od_notIn (hK : X.K = g.K) : OpD g X (compareOp .NotIn) notInD := OpD.of fun dx dy Z F st d e => by
  obtain ⟨b, hb, rfl⟩ := Option.map_eq_some_iff.mp e
  rcases inB_inv hb with ⟨s, z, c, rfl, rfl, rfl, rfl⟩ | ⟨v, ds, vs, h1, h2, h3, rfl⟩
  · exact ⟨_, op_notIn_sign, fun x y H Q sim hx hy q => by unfold RelD at hx hy; exact ⟨c, z, hx, hy, q _ F H (Same.refl _) sim relD_bl⟩⟩
  · refine ⟨_, op_notIn_seq, fun x y H Q sim hx hy q => ?_⟩
    obtain ⟨a, us, rfl, hs, hr⟩ := sim.seq hy h2
    rw [scalV_rel h1 hx]
    obtain rfl := scalsV_rel h3 hr
    rw [hK]
    exact ⟨a, us, rfl, hs, scalV_flat h1, scalsV_flat h3, q _ F H (Same.refl _) sim relD_bl⟩
/-! ### items -/
theorem RelDs.atI {ds : List D} {vs : List V} {i : Int} {d : D} (r : RelDs g F ds vs) (h : L2.atI ds i = some d) : ∃ v, L2.atI vs i = some v ∧ RelD g F d v := by
  unfold L2.atI at h ⊢
  rw [r.len]
  obtain ⟨j, h1, h2⟩ := Option.bind_eq_some_iff.mp h
  obtain ⟨v, h3, h4⟩ := r.get h2
  exact ⟨v, by rw [h1]; exact h3, h4⟩
def ixD : P2 := fun x y st => match x, y with
  | .str z, .int i => if z.length ≤ sizeLine then (atI z.cps.toList i).map fun c => .str ⟨#[c]⟩ else none
  | x, .int i => (seqD st x).bind fun ds => atI ds i
  | _, _ => none
theorem ixr_ix (hK : X.K = g.K) : IxR X (r2 g ixD) := by
  intro value slice pins s σ H x y v u Q I rx ry ⟨Z, F, st, dx, dy, d, sim, hx, hy, e, q⟩ hs
  refine ix_seq value slice pins s σ H x y v u Q I rx ry ?_ hs
  rw [hK]
  unfold ixD at e
  split at e
  · rename_i z i
    unfold RelD at hx hy
    split at e
    · rename_i hl
      obtain ⟨c, hc, rfl⟩ := Option.map_eq_some_iff.mp e
      exact .inr (.inr ⟨z, i, c, hx, hy, hl, hc, q _ F H (Same.refl _) sim relD_str⟩)
    · cases e
  · rename_i i _
    obtain ⟨ds, h1, h2⟩ := Option.bind_eq_some_iff.mp e
    obtain ⟨a, vs, rfl, hs, hr⟩ := sim.seq hx h1
    obtain ⟨w, h3, h4⟩ := hr.atI h2
    unfold RelD at hy
    rcases hs with hs | hs
    · exact .inl ⟨a, vs, i, w, rfl, hy, hs, h3, q _ F H (Same.refl _) sim h4⟩
    · exact .inr (.inl ⟨a, vs, i, w, rfl, hy, hs, h3, q _ F H (Same.refl _) sim h4⟩)
  · cases e
/-! ### slices -/
structure FO (g : G) (X : Cx) (W : WX) (e : Option Expr) (m : Env → M Ex (Option Int)) : Prop where
  po : PO X e (tX g (fun _ a b => a = b) W m)
  mono : ∀ ρ, Mono (m ρ)
theorem PO.imp {e : Option Expr} {t t' : TO} (h : PO X e t) (k : ∀ σ H Q, t' σ H Q → t σ H Q) : PO X e t' := ⟨fun pins s σ H Q I q => h.run pins s σ H Q I (k _ _ _ q)⟩
def asI : D → M Ex Int
  | .int i => pureM i
  | _ => failM
theorem mono_asI (d : D) : Mono (asI d) := by cases d <;> first | exact mono_pure _ | exact mono_fail
theorem asI_inv {d : D} {Q : Int → S → Prop} {E : Ex → S → Prop} (h : asI d st Q E) : ∃ b, d = .int b ∧ Q b st := by
  cases d with
  | int b => exact ⟨b, rfl, h⟩
  | _ => exact h.elim
def partN : Env → M Ex (Option Int) := fun _ => pureM none
def partS (m : Env → M Ex D) : Env → M Ex (Option Int) := fun ρ => bindM (m ρ) fun d => bindM (asI d) fun i => pureM (some i)
theorem fo_none : FO g X W none partN := ⟨PO.imp po_none fun σ H Q ⟨Z, F, st, ρ, E, N, q⟩ => tX.done (R := fun _ a b => a = b) N rfl q, fun _ => mono_pure _⟩
theorem fo_some {m : Env → M Ex D} (h : FE g X W e m) : FO g X W (some e) (partS m) :=
  ⟨PO.imp (po_some h.pe) fun σ H Q ⟨Z, F, st, ρ, E, N, q⟩ => tX.go N (h.mono ρ) (fun _ => mono_bind (mono_asI _) fun _ => mono_pure _) q fun d v F st H1 e N r q => by
    obtain ⟨i, rfl, q⟩ := asI_inv q
    unfold RelD at r
    exact ⟨i, r, tX.done (R := fun _ a b => a = b) N rfl q⟩, fun ρ => mono_bind (h.mono ρ) fun _ => mono_bind (mono_asI _) fun _ => mono_pure _⟩
def cutD (xs : List D) (lo hi : Option Int) : List D := (xs.drop (HT.sIx xs.length 0 lo)).take (HT.sIx xs.length xs.length hi - HT.sIx xs.length 0 lo)
theorem RelDs.cut {ds : List D} {vs : List V} (r : RelDs g F ds vs) (lo hi : Option Int) : RelDs g F (cutD ds lo hi) (cutV vs lo hi) := by
  unfold cutD cutV
  rw [r.len]
  exact (r.drop _).take _
def slD (x : D) (lo hi : Option Int) : Option D := match x with
  | .str z => if z.length ≤ sizeLine then some (.str (cutS z lo hi)) else none
  | .tup xs => some (.tup (cutD xs lo hi))
  | .lst xs => some (.lst (cutD xs lo hi))
  | _ => none
def sliceE (a : Env → M Ex D) (l h : Env → M Ex (Option Int)) : Env → M Ex D := fun ρ => bindM (a ρ) fun x => bindM (l ρ) fun lo => bindM (h ρ) fun hi => seeM fun _ => slD x lo hi
def rSl (g : G) : V → Option Int → Option Int → Hp → VK → Prop := fun x lo hi H Q => ∃ Z F st dx d, Sim g Z st F H ∧ RelD g F dx x ∧ slD dx lo hi = some d ∧ Res g (RelD g) Z F Q d st
theorem slr_sl (hK : X.K = g.K) : SlR X (rSl g) := by
  intro pins s σ H x v vl vu lo hi sl Q I rx hsl hl hu ⟨Z, F, st, dx, d, sim, hx, e, q⟩
  unfold slD at e
  split at e
  · rename_i z
    split at e
    · rename_i hz
      cases e
      unfold RelD at hx
      exact sl_str pins s σ H x v vl vu lo hi sl Q I rx hsl hl hu ⟨z, hx, hz, q _ F H (Same.refl _) sim relD_str⟩
    · cases e
  · rename_i xs
    cases e
    unfold RelD at hx
    obtain ⟨a, vs, rfl, h1, r1⟩ := hx
    refine sl_tupA pins s σ H _ v vl vu lo hi sl Q I rx hsl hl hu ⟨a, vs, rfl, by rw [hK]; exact sqT_mono sim.same h1, fun hw => ?_, fun hw p np => ?_⟩
    · have ec : cutD xs lo hi = xs := by
        unfold cutD
        rw [← r1.len, hw.1, hw.2, List.drop_zero, Nat.sub_zero, r1.len, List.take_length]
      rw [ec] at q
      exact q _ F H (Same.refl _) sim (by unfold RelD; exact ⟨a, vs, rfl, h1, r1⟩)
    · have s := same_upd (o := .tup (cutV vs lo hi)) (sim.free np).1
      exact q _ _ _ s (sim.new np) (by unfold RelD; exact ⟨p, _, rfl, SqT.of upd_same, (r1.cut lo hi).mono s⟩)
  · rename_i xs
    cases e
    unfold RelD at hx
    obtain ⟨a, vs, rfl, h1, r1⟩ := hx
    refine sl_list pins s σ H _ v vl vu lo hi sl Q I rx hsl hl hu ⟨a, vs, rfl, by rw [hK]; exact SqL.of (sim.same _ _ h1), fun p np => ?_⟩
    have s := same_upd (o := .lst (cutV vs lo hi)) (sim.free np).1
    exact q _ _ _ s (sim.new np) (by unfold RelD; exact ⟨p, _, rfl, upd_same, (r1.cut lo hi).mono s⟩)
  · cases e
theorem fe_slice {lo hi : Option Expr} {a : Env → M Ex D} {l h : Env → M Ex (Option Int)} {p2 : Pos} (hK : X.K = g.K) (ha : FE g X W e a) (hl : FO g X W lo l) (hh : FO g X W hi h) : FE g X W (.Subscript e (.Slice lo hi none p2) pos) (sliceE a l h) :=
  ⟨PE.imp (pe_slice (slr_sl hK) ha.pe hl.po hh.po) fun σ H Q ⟨Z, F, st, ρ, E, N, q⟩ => tX.go N (ha.mono ρ) (fun _ => mono_bind (hl.mono ρ) fun _ => mono_bind (hh.mono ρ) fun _ => mono_see _) q fun dx x F st H1 e N rx q =>
    tX.go (R1 := fun _ a b => a = b) N (hl.mono ρ) (fun _ => mono_bind (hh.mono ρ) fun _ => mono_see _) q fun lo lo' F2 st H2 e2 N el q => tX.go (R1 := fun _ a b => a = b) N (hh.mono ρ) (fun _ => mono_see _) q fun hi hi' F3 st H3 e3 N eh q => by
      subst el; subst eh
      obtain ⟨d, ed, q⟩ := q
      exact ⟨Z, F3, st, dx, d, N.sim, (rx.mono e2).mono e3, ed, q⟩,
   fun ρ => mono_bind (ha.mono ρ) fun _ => mono_bind (hl.mono ρ) fun _ => mono_bind (hh.mono ρ) fun _ => mono_see _⟩
end DL

/-! ### fields, displays, calls -/
namespace DL
open PySem L2
variable {g : G} {Z F F' H H' : Hp} {W : WX} {σ : St} {ρ : Env} {st : S} {α β γ δ : Type} {X : Cx} {e e1 e2 e3 : Expr} {pos : Pos}
/-! ### new places, places let go -/
def newM {ε : Type} (o : Ob) : M ε D := fun s Q _ => ∀ a, s.map a = none → Q (.ref a) (s.set a o)
theorem mono_new {ε : Type} {o : Ob} : Mono (newM o : M ε D) := fun _ _ _ _ _ hq _ h a n => hq _ _ (h a n)
def obD : Ob → Option D
  | .lst xs => some (.lst xs)
  | .dic kvs => some (.dic (kvs.map (·.1)) (kvs.map (·.2)))
  | .ins c fs => some (.ins c (fs.map (·.1)) (fs.map (·.2)))
  | _ => none
def freeze {ε : Type} : D → M ε D := fun d s Q _ => ∃ a o x, d = .ref a ∧ s.map a = some o ∧ obD o = some x ∧ Q x (s.del a)
theorem mono_freeze {ε : Type} (d : D) : Mono (freeze d : M ε D) := fun _ _ _ _ _ hq _ ⟨a, o, x, h1, h2, h3, h⟩ => ⟨a, o, x, h1, h2, h3, hq _ _ h⟩
theorem Sim.freeze {a : Addr} {o : Ob} {x : D} (s : Sim g Z st F H) (h : st.map a = some o) (k : obD o = some x) : ∃ F', Same F F' ∧ Sim g Z (st.del a) F' H ∧ RelD g F' x (.ref a) := by
  obtain ⟨f, r⟩ := s.ob a o h
  cases o with
  | bag c => cases k
  | raw => cases k
  | lst ds =>
    cases (Option.some.inj k)
    obtain ⟨vs, e, r⟩ := r
    exact ⟨_, same_upd f, s.keep h e (by intro z; cases z), by unfold RelD; exact ⟨a, vs, rfl, upd_same, r.mono (same_upd f)⟩⟩
  | dic ds =>
    cases (Option.some.inj k)
    obtain ⟨vs, e, r1, r⟩ := r
    exact ⟨_, same_upd f, s.keep h e (by intro z; cases z), by unfold RelD; exact ⟨a, vs, rfl, upd_same, r1, r.mono (same_upd f)⟩⟩
  | ins c ds =>
    cases (Option.some.inj k)
    obtain ⟨dx, vs, e, r1, r⟩ := r
    exact ⟨_, same_upd f, s.keep h e (by intro z; cases z), by unfold RelD; exact ⟨a, dx, vs, rfl, upd_same, r1, r.mono (same_upd f)⟩⟩
/-- slot i holds a place that is let go -/
def freezeS (i : Nat) : Env → MS := fun ρ => bindM (up ρ (var i ρ)) fun d => bindM (freeze d) fun x => pureM (.nx (ρ.set i (some x)))
theorem mono_freezeS (i : Nat) (ρ : Env) : Mono (freezeS i ρ) := mono_bind (mono_up (mono_var i ρ)) fun d => mono_bind (mono_freeze d) fun _ => mono_pure _
theorem list_set_same {α : Type} {xs : List α} {i : Nat} {x : α} (h : xs[i]? = some x) : xs.set i x = xs := by
  refine List.ext_getElem? fun j => ?_
  by_cases q : i = j
  · subst q; rw [List.getElem?_set_self', h]; rfl
  · rw [List.getElem?_set_ne q]
theorem fs_freeze {s : Stmt} {b : Env → MS} (i : Nat) (h : FS g X W s b) : FS g X W s (seqS (freezeS i) b) := fs_pre (fun D σ H ⟨Z, F, st, ρ, E, N, q⟩ => by
  obtain ⟨d, e, a, o, x, rfl, hm, ho, q⟩ := varO_inv q
  obtain ⟨F', s, sim, r⟩ := N.sim.freeze hm ho
  refine q σ F' H s sim ?_
  obtain ⟨v, e', rv⟩ := N.env.2 i _ e
  unfold RelD at rv
  subst rv
  have := (N.env.mono s).set (i := i) r
  rw [list_set_same e'] at this
  exact this) (mono_freezeS i) h
/-! ### displays -/
def tupE (a : Env → M Ex (List D)) : Env → M Ex D := fun ρ => bindM (a ρ) fun ds => bindM (needM (ds.length ≤ sizeLine)) fun _ => pureM (.tup ds)
theorem mono_tupE {a : Env → M Ex (List D)} (h : ∀ ρ, Mono (a ρ)) (ρ : Env) : Mono (tupE a ρ) := mono_bind (h ρ) fun _ => mono_bind (mono_need _) fun _ => mono_pure _
theorem fe_tup {es : List Expr} {x1} {a : Env → M Ex (List D)} (h : FA g X W es a) : FE g X W (.Tuple es x1 pos) (tupE a) :=
  ⟨PE.imp (pe_tup h.pa) fun σ H Q ⟨Z, F, st, ρ, E, N, q⟩ => tX.go (R1 := RelDs g) N (h.mono ρ) (fun _ => mono_bind (mono_need _) fun _ => mono_pure _) q fun ds vs F st H1 e N r q => by
    obtain ⟨hl, q⟩ := q
    refine ⟨by rw [r.len]; exact hl, fun p np => ?_⟩
    have s := same_upd (o := .tup vs) (N.sim.free np).1
    exact q _ _ _ s (N.sim.new np) (by unfold RelD; exact ⟨p, vs, rfl, SqT.of upd_same, r.mono s⟩), mono_tupE h.mono⟩
/-- a list that never changes -/
def lstE (a : Env → M Ex (List D)) : Env → M Ex D := fun ρ => bindM (a ρ) fun ds => bindM (needM (ds.length ≤ sizeLine)) fun _ => pureM (.lst ds)
theorem fe_lst {es : List Expr} {a : Env → M Ex (List D)} (h : FA g X W es a) : FE g X W (.List es pos) (lstE a) :=
  ⟨PE.imp (pe_lst h.pa) fun σ H Q ⟨Z, F, st, ρ, E, N, q⟩ => tX.go (R1 := RelDs g) N (h.mono ρ) (fun _ => mono_bind (mono_need _) fun _ => mono_pure _) q fun ds vs F st H1 e N r q => by
    obtain ⟨hl, q⟩ := q
    refine ⟨by rw [r.len]; exact hl, fun p np => ?_⟩
    have s := same_upd (o := .lst vs) (N.sim.free np).1
    exact q _ _ _ s (N.sim.new np) (by unfold RelD; exact ⟨p, vs, rfl, upd_same, r.mono s⟩), fun ρ => mono_bind (h.mono ρ) fun _ => mono_bind (mono_need _) fun _ => mono_pure _⟩
/-- a list that may change -/
def lstN (a : Env → M Ex (List D)) : Env → M Ex D := fun ρ => bindM (a ρ) fun ds => bindM (needM (ds.length ≤ sizeLine)) fun _ => newM (.lst ds)
theorem fe_lstN {es : List Expr} {a : Env → M Ex (List D)} (h : FA g X W es a) : FE g X W (.List es pos) (lstN a) :=
  ⟨PE.imp (pe_lst h.pa) fun σ H Q ⟨Z, F, st, ρ, E, N, q⟩ => tX.go (R1 := RelDs g) N (h.mono ρ) (fun _ => mono_bind (mono_need _) fun _ => mono_new) q fun ds vs F st H1 e N r q => by
    obtain ⟨hl, q⟩ := q
    refine ⟨by rw [r.len]; exact hl, fun p np => ?_⟩
    obtain ⟨nF, nS⟩ := N.sim.free np
    exact q p nS _ F _ (Same.refl _) (N.sim.put nF (.inl np) ⟨vs, upd_same, r⟩) relD_ref, fun ρ => mono_bind (h.mono ρ) fun _ => mono_bind (mono_need _) fun _ => mono_new⟩
/-- a dict that may change -/
def dicN : Env → M Ex D := fun _ => newM (.dic [])
theorem fe_dicN : FE g X W (.Dict [] [] pos) dicN := ⟨PE.imp pe_dnewK fun σ H Q ⟨Z, F, st, ρ, E, N, q⟩ p np => by
  obtain ⟨nF, nS⟩ := N.sim.free np
  exact q p nS _ F _ (Same.refl _) (N.sim.put nF (.inl np) ⟨[], upd_same, rfl, .nil⟩) relD_ref, fun ρ => mono_new⟩
/-! ### fields -/
theorem lookup_rel : ∀ {fs : List (Str × V)} {ns : List Str} {ds : List D} {f : Str} {d : D}, fs.map (·.1) = ns → RelDs g F ds (fs.map (·.2)) → (ns.zip ds).lookup f = some d → ∃ v, fs.lookup f = some v ∧ RelD g F d v
  | [], ns, ds, f, d, h1, h2, h3 => by
    cases h1; cases h3
  | (n, v) :: fs, ns, ds, f, d, h1, h2, h3 => by
    subst h1
    cases ds with
    | nil => have := h2.nil_inv; cases this
    | cons x ds =>
      obtain ⟨w, ws, e, r1, r2⟩ := h2.cons_inv
      cases e
      rw [List.map_cons, List.zip_cons_cons, List.lookup_cons] at h3
      rw [List.lookup_cons]
      cases q : (f == n) with
      | true => rw [q] at h3; cases h3; exact ⟨_, rfl, r1⟩
      | false =>
        rw [q] at h3
        exact lookup_rel rfl r2 h3
theorem lookup_none : ∀ {fs : List (Str × V)} {f : Str}, f ∉ fs.map (·.1) → fs.lookup f = none
  | [], _, _ => rfl
  | (n, v) :: fs, f, h => by
    rw [List.lookup_cons, beq_eq_false_iff_ne.mpr fun e => h (by rw [e]; simp)]
    exact lookup_none fun q => h (by simp only [List.map_cons, List.mem_cons]; exact .inr q)
/-- an instance of the class c: its fields -/
def insF (st : S) (c : Str) : D → Option (List Str × List D)
  | .ins c' ns vs => if c' = c then some (ns, vs) else none
  | .ref a => match st.map a with
    | some (.ins c' fs) => if c' = c then some (fs.map (·.1), fs.map (·.2)) else none
    | _ => none
  | _ => none
theorem Sim.insF {c : Str} {d : D} {v : V} {p : List Str × List D} (s : Sim g Z st F H) (r : RelD g F d v) (h : DL.insF st c d = some p) : ∃ a dx fs, v = .ref a ∧ H a = some (.ins (g.cl c) dx fs) ∧ fs.map (·.1) = p.1 ∧ RelDs g F p.2 (fs.map (·.2)) := by
  cases d with
  | ins c' ns vs =>
    replace h : (if c' = c then some (ns, vs) else none) = some p := h
    split at h
    · rename_i e
      subst e
      cases h
      unfold RelD at r
      obtain ⟨a, dx, fs, rfl, h1, h2, h3⟩ := r
      exact ⟨a, dx, fs, rfl, s.same _ _ h1, h2, h3⟩
    · cases h
  | ref a =>
    unfold RelD at r
    subst r
    unfold DL.insF at h
    simp only at h
    cases m : st.map a with
    | none => rw [m] at h; cases h
    | some o =>
      rw [m] at h
      cases o with
      | ins c' fds =>
        replace h : (if c' = c then some (fds.map (·.1), fds.map (·.2)) else none) = some p := h
        split at h
        · rename_i e
          subst e
          cases h
          obtain ⟨_, dx, fs, h1, h2, h3⟩ := s.ob a _ m
          exact ⟨a, dx, fs, rfl, h1, h2, h3⟩
        · cases h
      | _ => cases h
  | _ => cases h
def fldD (c f : Str) (x : D) (st : S) : Option D := (insF st c x).bind fun p => (p.1.zip p.2).lookup f
def fldE (c f : Str) (a : Env → M Ex D) : Env → M Ex D := fun ρ => bindM (a ρ) fun x => seeM (fldD c f x)
theorem fe_fld {c f : Str} {a : Env → M Ex D} (hK : X.K = g.K) (hc : Cls g.K (g.cl c)) (hn : NoAttr g.K (g.cl c) f) (h : FE g X W e a) (hb : attributeBase e f X.env (eval e X.env) = eval e X.env := by rfl) : FE g X W (.Attribute e f pos) (fldE c f a) :=
  ⟨PE.imp (pe_fld h.pe hb) fun σ H Q ⟨Z, F, st, ρ, E, N, q⟩ => tX.go N (h.mono ρ) (fun _ => mono_see _) q fun dx x F st H1 e N r q => by
    obtain ⟨d, ed, q⟩ := q
    obtain ⟨p, h1, h2⟩ := Option.bind_eq_some_iff.mp ed
    obtain ⟨a, dx, fs, rfl, h3, h4, h5⟩ := N.sim.insF r h1
    obtain ⟨v, h6, h7⟩ := lookup_rel h4 h5 h2
    rw [hK]
    exact ⟨a, _, dx, fs, v, rfl, h3, hc, hn, h6, tX.done N h7 q⟩, fun ρ => mono_bind (h.mono ρ) fun _ => mono_see _⟩
/-- self.f = e, at a place -/
def putD (f : Str) (v : D) : List (Str × D) → List (Str × D)
  | [] => [(f, v)]
  | (n, x) :: r => if n = f then (n, v) :: r else (n, x) :: putD f v r
theorem putD_rel {f : Str} {d : D} {v : V} (rv : RelD g F d v) : ∀ {fs : List (Str × V)} {fds : List (Str × D)}, fs.map (·.1) = fds.map (·.1) → RelDs g F (fds.map (·.2)) (fs.map (·.2)) → (putF f v fs).map (·.1) = (putD f d fds).map (·.1) ∧ RelDs g F ((putD f d fds).map (·.2)) ((putF f v fs).map (·.2))
  | [], [], _, _ => ⟨rfl, .one rv⟩
  | (n, x) :: fs, (m, y) :: fds, h1, h2 => by
    injection h1 with h3 h4
    have h3 : n = m := h3
    subst h3
    obtain ⟨w, ws, e, r1, r2⟩ := h2.cons_inv
    cases e
    by_cases q : n = f
    · have e1 : putF f v ((n, x) :: fs) = (n, v) :: fs := by show (if n = f then _ else _) = _; rw [if_pos q]
      have e2 : putD f d ((n, y) :: fds) = (n, d) :: fds := by show (if n = f then _ else _) = _; rw [if_pos q]
      rw [e1, e2]
      exact ⟨by simp [h4], .cons rv r2⟩
    · have e1 : putF f v ((n, x) :: fs) = (n, x) :: putF f v fs := by show (if n = f then _ else _) = _; rw [if_neg q]
      have e2 : putD f d ((n, y) :: fds) = (n, y) :: putD f d fds := by show (if n = f then _ else _) = _; rw [if_neg q]
      rw [e1, e2]
      obtain ⟨h5, h6⟩ := putD_rel rv h4 r2
      exact ⟨by simp [h5], .cons r1 h6⟩
def setFld (c f : Str) (x v : D) : M (Ex × Env) Unit := fun s Q _ => ∃ a fs, x = .ref a ∧ s.map a = some (.ins c fs) ∧ fs.length < 900 ∧ Q () (s.set a (.ins c (putD f v fs)))
theorem mono_setFld {c f : Str} {x v : D} : Mono (setFld c f x v) := fun _ _ _ _ _ hq _ ⟨a, fs, h1, h2, h3, h⟩ => ⟨a, fs, h1, h2, h3, hq _ _ h⟩
def fldS (c f : Str) (o v : Env → M Ex D) : Env → MS := fun ρ => bindM (up ρ (v ρ)) fun y => bindM (up ρ (o ρ)) fun x => bindM (setFld c f x y) fun _ => pureM (.nx ρ)
theorem fs_fld {c f : Str} {o v : Env → M Ex D} {p' : Pos} (hK : X.K = g.K) (hc : Cls g.K (g.cl c)) (hn : NoAttr g.K (g.cl c) f) (ho : FE g X W e1 o) (hv : FE g X W e2 v) (hs : swapsWith e2 (some (.Attribute e1 f p')) pos.line X.env = pure false := by rfl) :
    FS g X W (.Assign [.Attribute e1 f p'] e2 pos) (fldS c f o v) := by
  have mk : ∀ ρ y x, Mono (bindM (setFld c f x y) fun _ => (pureM (.nx ρ) : MS)) := fun ρ y x => mono_bind mono_setFld fun _ => mono_pure _
  refine ⟨PS.imp (ps_fld ho.pe hv.pe hs) fun D σ H ⟨Z, F, st, ρ, E, N, q⟩ => tS.go N (hv.mono ρ) (fun _ => mono_bind (mono_up (ho.mono ρ)) (mk ρ _)) q fun dy y F st H1 e N ry q => tS.go (R1 := RelD g) N (ho.mono ρ) (mk ρ _) q fun dx x F2 st H2 e2 N rx q => ?_,
    fun ρ => mono_bind (mono_up (hv.mono ρ)) fun _ => mono_bind (mono_up (ho.mono ρ)) (mk ρ _)⟩
  obtain ⟨a, fds, rfl, hm, hl, q⟩ := q
  unfold RelD at rx
  subst rx
  obtain ⟨nF, dx, fs, h1, h2, h3⟩ := N.sim.ob a _ hm
  rw [hK]
  have hlen : fs.length = fds.length := by have := congrArg List.length h2; simpa using this
  obtain ⟨h4, h5⟩ := putD_rel (ry.mono e2) h2 h3
  exact ⟨a, _, dx, fs, rfl, h1, hc, hn, by omega, q σ F2 _ (Same.refl _) (N.sim.put nF (.inr ⟨_, hm, by intro z; cases z⟩) ⟨dx, _, upd_same, h4, h5⟩) N.env⟩
end DL

/-! ### calls of defs, methods, classes -/
namespace DL
open PySem L2
variable {g : G} {Z F F' H H' : Hp} {W : WX} {σ : St} {ρ : Env} {st : S} {α β γ δ : Type} {X : Cx} {e e1 e2 e3 : Expr} {pos : Pos}
abbrev Fn := List D → List D → M Ex D
def excD (g : G) (Z F : Hp) (E : XK) : Ex → S → Prop := fun x s => ∀ u d F' H', Same F F' → Sim g Z s F' H' → RelEx g F' u d x → E u d H'
def spK (g : G) (m : Fn) : List V → List V → Hp → VK → XK → Prop := fun vs zs H Q E => ∃ Z F st ds es, Sim g Z st F H ∧ RelDs g F ds vs ∧ RelDs g F es zs ∧ m ds es st (Res g (RelD g) Z F Q) (excD g Z F E)
/-- the def at f, called with values and with keywords ks, does as m says -/
def Cal (g : G) (P : Program) (w : World) (K : PySem.W.Frag) (mg : Str → Option Value) (base : Heap) (k : Nat) (f : Addr) (ks : List Str) (m : Fn) : Prop :=
  ∀ (A : Around) (outer : List PySem.Env) (s : Shared) (H : Hp) (us ws : List Value) (vs zs : List V) (Q : VK) (E : XK), Room k A → Env0 P w K mg base A outer s H → Vals vs us → Vals zs ws → spK g m vs zs H Q E →
    codeAny (model P w) A (.call (.ref f) ⟨us, ks.zip ws⟩) (CR (L2.CX P w) outer P w H s Q E) s
def MonoF (m : Fn) : Prop := ∀ ds es, Mono (m ds es)
/-- positional arguments alone, defaults dd -/
def posF (n : Nat) (dd : List D) (m : List D → M Ex D) : Fn := fun ds es => match es with
  | [] => if ds.length = n then m (ds ++ dd) else failM
  | _ => failM
theorem mono_posF {n : Nat} {dd : List D} {m : List D → M Ex D} (h : ∀ ds, Mono (m ds)) : MonoF (posF n dd m) := fun ds es => by
  cases es with
  | nil => exact mono_ite (h _) mono_fail
  | cons _ _ => exact mono_fail
theorem cal_pos {P : Program} {w : World} {K : PySem.W.Frag} {mg : Str → Option Value} {base : Heap} {k n j : Nat} {f : Addr} {fd : FuncData} {ps : List Str} {m : List D → M Ex D} {its : List Value} {dvs : List V} {dd : List D}
    (Fo : FnOk P w K mg base (L2.CX P w) k f fd ps (spD g n m)) (hb : Binds K fd ps its) (hd : Vals dvs its) (hr : ∀ F, RelDs g F dd dvs) (hn : j + dd.length = n) : Cal g P w K mg base k f [] (posF j dd m) := by
  intro A outer s H us ws vs zs Q E room env r rz ⟨Z, F, st, ds, es, sim, h1, h2, q⟩
  cases es with
  | cons _ _ => exact q.elim
  | nil =>
  have hz := h2.nil_inv
  subst hz
  cases rz
  replace q : (if ds.length = j then m (ds ++ dd) else failM) st (Res g (RelD g) Z F Q) (excD g Z F E) := q
  by_cases hj : ds.length = j
  · rw [if_pos hj] at q
    have R := FnOk.raw (dvs := dvs) Fo hb hd
    have hl2 : (vs ++ dvs).length = n := by rw [List.length_append, h1.len, (hr F).len]; omega
    exact R A outer s H us vs Q E room env r ⟨Z, F, st, ds ++ dd, hl2, sim, h1.append (hr F), q⟩
  · rw [if_neg hj] at q; exact q.elim
/-- with keywords: gD puts all in its place -/
def kwF (n j : Nat) (gD : List D → List D → List D) (m : List D → M Ex D) : Fn := fun ds es => if ds.length = n ∧ es.length = j then m (gD ds es) else failM
theorem mono_kwF {n j : Nat} {gD : List D → List D → List D} {m : List D → M Ex D} (h : ∀ ds, Mono (m ds)) : MonoF (kwF n j gD m) := fun ds es => mono_ite (h _) mono_fail
theorem cal_kw {P : Program} {w : World} {K : PySem.W.Frag} {mg : Str → Option Value} {base : Heap} {k n i j : Nat} {f : Addr} {fd : FuncData} {ps ks : List Str} {m : List D → M Ex D} {gg : List Value → List Value → List Value} {gV : List V → List V → List V} {gD : List D → List D → List D}
    (Fo : FnOk P w K mg base (L2.CX P w) k f fd ps (spD g n m)) (hb : KBn K fd ps i ks gg gV) (hj : ks.length = j) (hD : ∀ {F ds vs es zs}, ds.length = i → es.length = j → RelDs g F ds vs → RelDs g F es zs → RelDs g F (gD ds es) (gV vs zs) ∧ (gD ds es).length = n) :
    Cal g P w K mg base k f ks (kwF i j gD m) := by
  intro A outer s H us ws vs zs Q E room env r rz ⟨Z, F, st, ds, es, sim, h1, h2, q⟩
  replace q : (if ds.length = i ∧ es.length = j then m (gD ds es) else failM) st (Res g (RelD g) Z F Q) (excD g Z F E) := q
  by_cases hh : ds.length = i ∧ es.length = j
  · rw [if_pos hh] at q
    obtain ⟨h3, h4⟩ := hD hh.1 hh.2 h1 h2
    refine Fo.run A outer s H ⟨us, ks.zip ws⟩ (gg us ws) (gV vs zs) Q E room env (hb.to s us ws (env.mod.kin.keeps fun b o e => (env.bs b o e).1) (by rw [← r.length, h1.len]; exact hh.1) (by rw [← rz.length, h2.len, hj]; exact hh.2)) (hb.rel r rz) ⟨Z, F, st, gD ds es, by rw [h3.len]; exact h4, sim, h3, q⟩
  · rw [if_neg hh] at q; exact q.elim
theorem code_cal {k : Nat} {f : Addr} {ks : List Str} {m : Fn} {pins : List (Addr × Obj)} {s : Shared} {Q : VK} {us ws : List Value} {vs zs : List V} (C : Cal g X.prog X.w X.K X.mg X.base k f ks m) (hr : Room k X.A) (tk : Takes X W) (I : Inv X pins σ H s) (r : Vals vs us) (rz : Vals zs ws)
    (h : spK g m vs zs H Q (WE W σ)) : codeAny (model X.prog X.w) X.A (.call (.ref f) ⟨us, ks.zip ws⟩) (fun r s' => match r with | .ok (.ret v) => EP X pins σ Q v s' | .ok _ => False | .error e => X.xe e s') s := by
  refine codeAny_mono (C X.A X.stack s H us ws vs zs Q (WE W σ) hr I.env0 r rz h) fun r s' hq => ?_
  cases r with
  | error e => exact passAt tk σ pins H s e s' I hq
  | ok fl =>
    cases fl with
    | ret u => exact I.after hq
    | next => exact False.elim hq
    | brk => exact False.elim hq
    | cont => exact False.elim hq
theorem run_cal {k : Nat} {f : Addr} {ks : List Str} {m : Fn} {pins : List (Addr × Obj)} {s : Shared} {Q : VK} {us ws : List Value} {vs zs : List V} (C : Cal g X.prog X.w X.K X.mg X.base k f ks m) (hr : Room k X.A) (tk : Takes X W) (I : Inv X pins σ H s) (r : Vals vs us) (rz : Vals zs ws)
    (h : spK g m vs zs H Q (WE W σ)) : wpAny (model X.prog X.w) X.A (call (.ref f) us (ks.zip ws)) (EP X pins σ Q) X.xe s := wpAny_call (code_cal C hr tk I r rz h)
structure FK (g : G) (X : Cx) (W : WX) (kws : List Keyword) (m : Env → M Ex (List D)) : Prop where
  pk : PK X kws (tX g (RelDs g) W m)
  mono : ∀ ρ, Mono (m ρ)
theorem PK.imp {kws : List Keyword} {t t' : TA} (h : PK X kws t) (k : ∀ σ H Q, t' σ H Q → t σ H Q) : PK X kws t' := ⟨fun p pins s σ H Q I q => h.run p pins s σ H Q I (k _ _ _ q)⟩
theorem fk_nil : FK g X W [] argsN := ⟨PK.imp pk_nil fun σ H Q ⟨Z, F, st, ρ, E, N, h⟩ => tX.done (R := RelDs g) (d := []) N .nil h, fun _ => mono_pure _⟩
theorem fk_cons {kws : List Keyword} {nm kpos} {m : Env → M Ex D} {n : Env → M Ex (List D)} (h : FE g X W e m) (k : FK g X W kws n) : FK g X W (⟨nm, e, kpos⟩ :: kws) (argsC m n) :=
  ⟨PK.imp (pk_cons h.pe k.pk) fun _ _ _ ⟨Z, F, st, ρ, E, N, q⟩ => tX.go N (h.mono ρ) (fun _ => mono_bind (k.mono ρ) fun _ => mono_pure _) q fun d v F st H1 e N r q =>
    tX.go (R1 := RelDs g) N (k.mono ρ) (fun _ => mono_pure _) q fun ds vs F2 st2 H2 e2 N2 r2 q2 => tX.done (R := RelDs g) N2 (.cons (r.mono e2) r2) q2, fun ρ => mono_bind (h.mono ρ) fun _ => mono_bind (k.mono ρ) fun _ => mono_pure _⟩
/-- what a call's exceptions are wished to be -/
theorem Now.exc {E : Ex → Env → S → Prop} {x : Ex} {s : S} (N : Now g W Z σ H F ρ st E) (h : E x ρ s) : excD g Z F (WE W σ) x s := fun u d F' H' e sim rx => N.lk x ρ s F' H' u d σ e sim (N.env.mono e) rx h
def callE (m : Fn) (a k : Env → M Ex (List D)) : Env → M Ex D := fun ρ => bindM (a ρ) fun ds => bindM (k ρ) fun es => m ds es
theorem mono_callE {m : Fn} {a k : Env → M Ex (List D)} (hm : MonoF m) (ha : ∀ ρ, Mono (a ρ)) (hk : ∀ ρ, Mono (k ρ)) (ρ : Env) : Mono (callE m a k ρ) := mono_bind (ha ρ) fun _ => mono_bind (hk ρ) fun _ => hm _ _
variable {k : Nat} {f : Addr} {ks : List Str} {m : Fn} {x : Str} {p : Pos} {es : List Expr} {kws : List Keyword} {a kk : Env → M Ex (List D)}
/-- the keywords, then the call -/
theorem kwGo {E : Ex → Env → S → Prop} {Q : VK} {ds : List D} {vs : List V} (hM : MonoF m) (hkw : FK g X W kws kk) (N : Now g W Z σ H F ρ st E) (r : RelDs g F ds vs) (q : bindM (kk ρ) (m ds) st (Res g (RelD g) Z F Q) (fun x s => E x ρ s)) :
    tX g (RelDs g) W kk σ H fun zs H2 => spK g m vs zs H2 Q (WE W σ) :=
  tX.go (R1 := RelDs g) N (hkw.mono ρ) (fun _ => hM _ _) q fun es zs F2 st H2 e2 N r2 q => ⟨Z, F2, st, ds, es, N.sim, r.mono e2, r2, hM _ _ _ _ _ _ _ (fun _ _ z => z) (fun _ _ z => N.exc z) q⟩
theorem callGo {E : Ex → Env → S → Prop} {Q : VK} {es : List Expr} (hM : MonoF m) (ha : FA g X W es a) (hkw : FK g X W kws kk) (N : Now g W Z σ H F ρ st E) (q : callE m a kk ρ st (Res g (RelD g) Z F Q) (fun x s => E x ρ s)) :
    tX g (RelDs g) W a σ H fun vs H1 => tX g (RelDs g) W kk σ H1 fun zs H2 => spK g m vs zs H2 Q (WE W σ) :=
  tX.go (R1 := RelDs g) N (ha.mono ρ) (fun _ => mono_bind (hkw.mono ρ) fun _ => hM _ _) q fun ds vs F st H1 e1 N r q => kwGo hM hkw N r q
theorem callGoX {E : Ex → Env → S → Prop} {Q : VK} {es : List Expr} {x : D} {v : V} (hM : MonoF m) (ha : FA g X W es a) (hkw : FK g X W kws kk) (N : Now g W Z σ H F ρ st E) (rx : RelD g F x v) (q : callE (fun ds es => m (x :: ds) es) a kk ρ st (Res g (RelD g) Z F Q) (fun x s => E x ρ s)) :
    tX g (RelDs g) W a σ H fun vs H1 => tX g (RelDs g) W kk σ H1 fun zs H2 => spK g m (v :: vs) zs H2 Q (WE W σ) :=
  tX.go (R1 := RelDs g) N (ha.mono ρ) (fun _ => mono_bind (hkw.mono ρ) fun _ => hM _ _) q fun ds vs F st H1 e1 N r q => kwGo hM hkw N (.cons (rx.mono e1) r) q
theorem fe_call1 (C : Cal g X.prog X.w X.K X.mg X.base k f ks m) (hM : MonoF m) (hr : Room k X.A) (tk : Takes X W) (hg : Gl X x) (hm : X.mg x = some (.ref f)) (hk : PySem.W.keepIn X.K (.ref f) = true) (ha : FA g X W (e :: es) a) (hkw : FK g X W kws kk)
    (hall : (backToKw pos (keywordEach kws X.env)).all (·.1.isSome) = true := by rfl) (hks : (backToKw pos (keywordEach kws X.env)).filterMap (·.1) = ks := by rfl) (hdb : (x == ("__debug__" : Str)) = false := by decide)
    (he : starEach (e :: es) X.env = (false, eval e X.env) :: starEach es X.env := by rfl) (hpl : ((backTo pos (starEach (e :: es) X.env)).any (·.1) || (backToKw pos (keywordEach kws X.env)).any (·.1.isNone)) = false := by rfl) :
    FE g X W (.Call (.Name x p) (e :: es) kws pos) (callE m a kk) := by
  refine ⟨⟨fun pins s σ H Q I ⟨Z, F, st, ρ, E, N, q⟩ => ?_⟩, mono_callE hM ha.mono hkw.mono⟩
  refine wpAny_Call_Name_kw (ld_glob I hg hm ?_ hdb)
  have t1 := callGo hM ha hkw N q
  refine PySem.W.callWith_KW (h₀ := X.base) I.ok.mod.kin hk hall (thn (ha.pa.run pos pins s σ H _ I t1) fun us s1 ⟨vs, H1, I1, r, q⟩ => ?_) hpl he
  refine thn (hkw.pk.run pos pins s1 σ H1 _ I1 q) fun ws s2 ⟨zs, H2, I2, rz, q2⟩ => ⟨I2.kIn, ?_⟩
  rw [hks]
  exact run_cal C hr tk I2 r rz q2
theorem fe_call0 (C : Cal g X.prog X.w X.K X.mg X.base k f ks m) (hM : MonoF m) (hr : Room k X.A) (tk : Takes X W) (hg : Gl X x) (hm : X.mg x = some (.ref f)) (hk : PySem.W.keepIn X.K (.ref f) = true) (hkw : FK g X W kws kk)
    (hall : (backToKw pos (keywordEach kws X.env)).all (·.1.isSome) = true := by rfl) (hks : (backToKw pos (keywordEach kws X.env)).filterMap (·.1) = ks := by rfl) (hdb : (x == ("__debug__" : Str)) = false := by decide)
    (hpl : ((backTo pos (starEach [] X.env)).any (·.1) || (backToKw pos (keywordEach kws X.env)).any (·.1.isNone)) = false := by rfl) :
    FE g X W (.Call (.Name x p) [] kws pos) (callE m argsN kk) := by
  refine ⟨⟨fun pins s σ H Q I ⟨Z, F, st, ρ, E, N, q⟩ => ?_⟩, mono_callE hM (fun _ => mono_pure _) hkw.mono⟩
  refine wpAny_Call_Name_kw (ld_glob I hg hm ?_ hdb)
  refine PySem.W.callWith_KW0 (h₀ := X.base) I.ok.mod.kin hk hall ?_ hpl
  refine thn (hkw.pk.run pos pins s σ H _ I (kwGo hM hkw N (ds := []) .nil q)) fun ws s2 ⟨zs, H2, I2, rz, q2⟩ => ⟨I2.kIn, ?_⟩
  rw [hks]
  exact run_cal (vs := []) (us := []) C hr tk I2 .nil rz q2
/-! ### methods -/
/-- x is an instance of the class c without a field m -/
def insOk (c mn : Str) (x : D) (st : S) : Option Unit := (insF st c x).bind fun p => if mn ∈ p.1 then none else some ()
def methE (c mn : Str) (m : Fn) (o : Env → M Ex D) (a k : Env → M Ex (List D)) : Env → M Ex D := fun ρ => bindM (o ρ) fun x => bindM (seeM (insOk c mn x)) fun _ => bindM (a ρ) fun ds => bindM (k ρ) fun es => m (x :: ds) es
theorem MonoF.cons (h : MonoF m) (x : D) : MonoF fun ds es => m (x :: ds) es := fun ds es => h _ _
theorem Sim.insOk {c mn : Str} {d : D} {v : V} (s : Sim g Z st F H) (r : RelD g F d v) (h : DL.insOk c mn d st = some ()) : ∃ a dx fs, v = .ref a ∧ H a = some (.ins (g.cl c) dx fs) ∧ fs.lookup mn = none := by
  obtain ⟨p, h1, h2⟩ := Option.bind_eq_some_iff.mp h
  obtain ⟨a, dx, fs, e, h3, h4, _⟩ := s.insF r h1
  refine ⟨a, dx, fs, e, h3, lookup_none ?_⟩
  rw [h4]
  intro hm
  rw [if_pos hm] at h2; cases h2
theorem fe_meth1 {c mn : Str} {o : Expr} {mo : Env → M Ex D} {pl : Sem Bool} {apos : Pos} (C : Cal g X.prog X.w X.K X.mg X.base k f ks m) (hM : MonoF m) (hr : Room k X.A) (tk : Takes X W) (hK : X.K = g.K) (hc : Cls g.K (g.cl c)) (hm : Meth g.K (g.cl c) mn f)
    (ho : FE g X W o mo) (ha : FA g X W (e :: es) a) (hkw : FK g X W kws kk)
    (hall : (backToKw pos (keywordEach kws X.env)).all (·.1.isSome) = true := by rfl) (hks : (backToKw pos (keywordEach kws X.env)).filterMap (·.1) = ks := by rfl)
    (he : starEach (e :: es) X.env = (false, eval e X.env) :: starEach es X.env := by rfl) (hpl : ((backTo pos (starEach (e :: es) X.env)).any (·.1) || (backToKw pos (keywordEach kws X.env)).any (·.1.isNone)) = false := by rfl)
    (ht : eval (.Call (.Attribute o mn apos) (e :: es) kws pos) X.env = (do
      let ov ← eval o X.env
      standAt apos.atName
      let (f, first) ← holding [ov] (getMethod ov mn pl)
      callWith pos f first (backTo pos (starEach (e :: es) X.env)) (backToKw pos (keywordEach kws X.env))) := by rfl) :
    FE g X W (.Call (.Attribute o mn apos) (e :: es) kws pos) (methE c mn m mo a kk) := by
  refine ⟨⟨fun pins s σ H Q I ⟨Z, F, st, ρ, E, N, q⟩ => ?_⟩, fun ρ => mono_bind (ho.mono ρ) fun x => mono_bind (mono_see _) fun _ => mono_callE (hM.cons x) ha.mono hkw.mono ρ⟩
  rw [← hK] at hc hm
  refine PySem.W.methodCall_KW (pl := pl) (thn (ho.pe.run pins s σ H _ I (tX.go (R1 := RelD g) (P := fun v H1 => ∃ F st x, Now g W Z σ H1 F ρ st E ∧ RelD g F x v ∧ DL.insOk c mn x st = some () ∧ callE (fun ds es => m (x :: ds) es) a kk ρ st (Res g (RelD g) Z F Q) (fun x s => E x ρ s)) N (ho.mono ρ) (fun x => mono_bind (mono_see _) fun _ => mono_callE (hM.cons x) ha.mono hkw.mono ρ) q fun x v F st H1 e1 N r q => ?_)) fun u s1 ⟨v, H1, I1, rv, F, st, x, N, r, hi, q⟩ => ?_) ht
  · obtain ⟨_, hi, q⟩ := q
    exact ⟨F, st, x, N, r, hi, q⟩
  · obtain ⟨b, dx, fs, rfl, hb, hl⟩ := N.sim.insOk r hi
    obtain rfl : u = Value.ref b := rv
    refine getmeth_ok I1 hb hc hm hl ?_
    refine PySem.W.callWith_KW (first := [.ref b]) (h₀ := X.base) I.ok.mod.kin hm.kp hall (thn (ha.pa.run pos pins s1 σ H1 _ I1 (callGoX hM ha hkw N r q)) fun us s2 ⟨vs, H2, I2, r2, q2⟩ => ?_) hpl he
    refine thn (hkw.pk.run pos pins s2 σ H2 _ I2 q2) fun ws s3 ⟨zs, H3, I3, rz, q3⟩ => ⟨I3.kIn, ?_⟩
    rw [hks]
    exact run_cal (us := .ref b :: us) (vs := .ref b :: vs) C hr tk I3 (.cons rfl r2) rz q3
theorem fe_meth0 {c mn : Str} {o : Expr} {mo : Env → M Ex D} {pl : Sem Bool} {apos : Pos} (C : Cal g X.prog X.w X.K X.mg X.base k f ks m) (hM : MonoF m) (hr : Room k X.A) (tk : Takes X W) (hK : X.K = g.K) (hc : Cls g.K (g.cl c)) (hm : Meth g.K (g.cl c) mn f)
    (ho : FE g X W o mo) (hkw : FK g X W kws kk)
    (hall : (backToKw pos (keywordEach kws X.env)).all (·.1.isSome) = true := by rfl) (hks : (backToKw pos (keywordEach kws X.env)).filterMap (·.1) = ks := by rfl)
    (hpl : ((backTo pos (starEach [] X.env)).any (·.1) || (backToKw pos (keywordEach kws X.env)).any (·.1.isNone)) = false := by rfl)
    (ht : eval (.Call (.Attribute o mn apos) [] kws pos) X.env = (do
      let ov ← eval o X.env
      standAt apos.atName
      let (f, first) ← holding [ov] (getMethod ov mn pl)
      callWith pos f first (backTo pos (starEach [] X.env)) (backToKw pos (keywordEach kws X.env))) := by rfl) :
    FE g X W (.Call (.Attribute o mn apos) [] kws pos) (methE c mn m mo argsN kk) := by
  refine ⟨⟨fun pins s σ H Q I ⟨Z, F, st, ρ, E, N, q⟩ => ?_⟩, fun ρ => mono_bind (ho.mono ρ) fun x => mono_bind (mono_see _) fun _ => mono_callE (hM.cons x) (fun _ => mono_pure _) hkw.mono ρ⟩
  rw [← hK] at hc hm
  refine PySem.W.methodCall_KW (pl := pl) (thn (ho.pe.run pins s σ H _ I (tX.go (R1 := RelD g) (P := fun v H1 => ∃ F st x, Now g W Z σ H1 F ρ st E ∧ RelD g F x v ∧ DL.insOk c mn x st = some () ∧ callE (fun ds es => m (x :: ds) es) argsN kk ρ st (Res g (RelD g) Z F Q) (fun x s => E x ρ s)) N (ho.mono ρ) (fun x => mono_bind (mono_see _) fun _ => mono_callE (hM.cons x) (fun _ => mono_pure _) hkw.mono ρ) q fun x v F st H1 e1 N r q => ?_)) fun u s1 ⟨v, H1, I1, rv, F, st, x, N, r, hi, q⟩ => ?_) ht
  · obtain ⟨_, hi, q⟩ := q
    exact ⟨F, st, x, N, r, hi, q⟩
  · obtain ⟨b, dx, fs, rfl, hb, hl⟩ := N.sim.insOk r hi
    obtain rfl : u = Value.ref b := rv
    refine getmeth_ok I1 hb hc hm hl ?_
    refine PySem.W.callWith_KW0 (first := [.ref b]) (h₀ := X.base) I.ok.mod.kin hm.kp hall ?_ hpl
    refine thn (hkw.pk.run pos pins s1 σ H1 _ I1 (kwGo hM hkw N (ds := [x]) (vs := [.ref b]) (.one r) q)) fun ws s2 ⟨zs, H2, I2, rz, q2⟩ => ⟨I2.kIn, ?_⟩
    rw [hks]
    exact run_cal (us := [.ref b]) (vs := [.ref b]) C hr tk I2 (.cons rfl .nil) rz q2
end DL

/-! ### new instances, classes, builtins -/
namespace DL
open PySem L2
variable {g : G} {Z F F' H H' : Hp} {W : WX} {σ : St} {ρ : Env} {st : S} {α β γ δ : Type} {X : Cx} {e e1 e2 e3 : Expr} {pos : Pos}
variable {k : Nat} {f : Addr} {ks : List Str} {m : Fn} {x : Str} {p : Pos} {es : List Expr} {kws : List Keyword} {a kk : Env → M Ex (List D)}
theorem run_mk {C : Addr} {pins : List (Addr × Obj)} {s : Shared} {Q : VK} {us ws : List Value} {vs zs : List V} (Mk : Mk X.K C f) (Ca : Cal g X.prog X.w X.K X.mg X.base k f ks m) (hr : Room (k + 1) X.A) (tk : Takes X W) (I : Inv X pins σ H s) (r : Vals vs us) (rz : Vals zs ws)
    (h : ∀ x dx, H x = none → H dx = none → dx ≠ x → spK g m (.ref x :: vs) zs (upd (upd H dx (.own x)) x (.ins C dx [])) (fun v H2 => v = .non ∧ Q (.ref x) H2) (WE W σ)) :
    wpAny (model X.prog X.w) X.A (call (.ref C) us (ks.zip ws)) (EP X pins σ Q) X.xe s := by
  have hq := h (s.heap.objs.size + 1) s.heap.objs.size (I.hok.fresh (Nat.le_succ _)) (I.hok.fresh (Nat.le_refl _)) (Nat.ne_of_lt (Nat.lt_succ_self _))
  have I2 := Inv.made (C := C) I
  have r1 : Vals (V.ref (s.heap.objs.size + 1) :: vs) (Value.ref (s.heap.objs.size + 1) :: us) := .cons rfl r
  refine wpAny_call (make_map (f := f) I.kIn Mk.makes Mk.init (beq_iff_eq.mp Mk.fn) (codeAny_mono (Ca _ X.stack _ _ (Value.ref (s.heap.objs.size + 1) :: us) ws _ _ _ (WE W σ) (hr.make C us (ks.zip ws))
    (I2.env0.make C us (ks.zip ws)) r1 rz hq) fun r s' hq' => ?_))
  cases r with
  | error e => exact passAt tk σ pins _ _ e s' I2 hq'
  | ok fl =>
    cases fl with
    | ret u =>
      obtain ⟨v, H', I3, rv, ev, q3⟩ := I2.after hq'
      subst ev
      exact ⟨rv, ⟨V.ref (s.heap.objs.size + 1), H', I3, rfl, q3⟩⟩
    | next => exact False.elim hq'
    | brk => exact False.elim hq'
    | cont => exact False.elim hq'
def asN : D → M Ex Unit
  | .non => pureM ()
  | _ => failM
theorem mono_asN (d : D) : Mono (asN d) := by cases d <;> first | exact mono_pure _ | exact mono_fail
theorem asN_inv {d : D} {Q : Unit → S → Prop} {E : Ex → S → Prop} (h : asN d st Q E) : d = .non ∧ Q () st := by
  cases d with
  | non => exact ⟨rfl, h⟩
  | _ => exact h.elim
/-- what becomes of the new instance: it stays a place, or it never changes -/
def stay : D → M Ex D := pureM
def mkM (c : Str) (m : Fn) (fin : D → M Ex D) : Fn := fun ds es => bindM (newM (.ins c [])) fun x => bindM (m (x :: ds) es) fun r => bindM (asN r) fun _ => fin x
structure Fin (g : G) (fin : D → M Ex D) : Prop where
  mono : ∀ d, Mono (fin d)
  ok : ∀ {Z F H : Hp} {st : S} {a : Addr} {Q : VK} {E : Ex → S → Prop}, Sim g Z st F H → fin (.ref a) st (Res g (RelD g) Z F Q) E → Q (.ref a) H
theorem fin_stay : Fin g stay := ⟨fun _ => mono_pure _, fun sim q => q _ _ _ (Same.refl _) sim relD_ref⟩
theorem fin_freeze : Fin g freeze := ⟨mono_freeze, fun sim ⟨a, o, x, e, h1, h2, q⟩ => by
  cases e
  obtain ⟨F', s, sim', r⟩ := sim.freeze h1 h2
  exact q _ _ _ s sim' r⟩
theorem mono_mkM {c : Str} {fin : D → M Ex D} (hM : MonoF m) (hf : ∀ d, Mono (fin d)) : MonoF (mkM c m fin) := fun ds es => mono_bind mono_new fun x => mono_bind (hM _ _) fun r => mono_bind (mono_asN r) fun _ => hf x
/-- the promise of C(..) from that of __init__ -/
theorem mkGo {c : Str} {fin : D → M Ex D} {Q : VK} {E : XK} {vs zs : List V} {y dx : Addr} (hM : MonoF m) (hf : Fin g fin) (h : spK g (mkM c m fin) vs zs H Q E) (n1 : H y = none) (n2 : H dx = none) (n3 : dx ≠ y) :
    spK g m (.ref y :: vs) zs (upd (upd H dx (.own y)) y (.ins (g.cl c) dx [])) (fun v H2 => v = .non ∧ Q (.ref y) H2) E := by
  obtain ⟨Z, F, st, ds, es, sim, r1, r2, q⟩ := h
  have sim1 := sim.junk (o := .own y) n2
  have n1' : upd H dx (.own y) y = none := none_upd (Ne.symm n3) n1
  obtain ⟨nF, nS⟩ := sim.free n1
  have sim2 : Sim g Z (st.set y (.ins c [])) F (upd (upd H dx (.own y)) y (.ins (g.cl c) dx [])) := sim1.put nF (.inl n1') ⟨dx, [], upd_same, rfl, .nil⟩
  refine ⟨Z, F, st.set y (.ins c []), .ref y :: ds, es, sim2, .cons relD_ref r1, r2, hM _ _ _ _ _ _ _ (fun r s k v F' H' e sim r => ?_) (fun _ _ z => z) (q y nS)⟩
  obtain ⟨rfl, k⟩ := asN_inv k
  unfold RelD at r
  refine ⟨r, hf.ok sim (hf.mono _ _ _ _ _ _ (fun _ _ z => z.mono e) (fun _ _ z => z) k)⟩
theorem fe_make1 {c : Str} {fin : D → M Ex D} (hf : Fin g fin) (Mk : Mk X.K (g.cl c) f) (C : Cal g X.prog X.w X.K X.mg X.base k f ks m) (hM : MonoF m) (hr : Room (k + 1) X.A) (tk : Takes X W) (hg : Gl X x) (hm : X.mg x = some (.ref (g.cl c))) (ha : FA g X W (e :: es) a) (hkw : FK g X W kws kk)
    (hall : (backToKw pos (keywordEach kws X.env)).all (·.1.isSome) = true := by rfl) (hks : (backToKw pos (keywordEach kws X.env)).filterMap (·.1) = ks := by rfl) (hdb : (x == ("__debug__" : Str)) = false := by decide)
    (he : starEach (e :: es) X.env = (false, eval e X.env) :: starEach es X.env := by rfl) (hpl : ((backTo pos (starEach (e :: es) X.env)).any (·.1) || (backToKw pos (keywordEach kws X.env)).any (·.1.isNone)) = false := by rfl) :
    FE g X W (.Call (.Name x p) (e :: es) kws pos) (callE (mkM c m fin) a kk) := by
  have hM2 := mono_mkM (c := c) hM hf.mono
  refine ⟨⟨fun pins s σ H Q I ⟨Z, F, st, ρ, E, N, q⟩ => ?_⟩, mono_callE hM2 ha.mono hkw.mono⟩
  refine wpAny_Call_Name_kw (ld_glob I hg hm ?_ hdb)
  refine PySem.W.callWith_KW (h₀ := X.base) I.ok.mod.kin Mk.kp hall (thn (ha.pa.run pos pins s σ H _ I (callGo hM2 ha hkw N q)) fun us s1 ⟨vs, H1, I1, r, q⟩ => ?_) hpl he
  refine thn (hkw.pk.run pos pins s1 σ H1 _ I1 q) fun ws s2 ⟨zs, H2, I2, rz, q2⟩ => ⟨I2.kIn, ?_⟩
  rw [hks]
  exact run_mk Mk C hr tk I2 r rz fun y dx n1 n2 n3 => mkGo hM hf q2 n1 n2 n3
theorem fe_make0 {c : Str} {fin : D → M Ex D} (hf : Fin g fin) (Mk : Mk X.K (g.cl c) f) (C : Cal g X.prog X.w X.K X.mg X.base k f ks m) (hM : MonoF m) (hr : Room (k + 1) X.A) (tk : Takes X W) (hg : Gl X x) (hm : X.mg x = some (.ref (g.cl c))) (hkw : FK g X W kws kk)
    (hall : (backToKw pos (keywordEach kws X.env)).all (·.1.isSome) = true := by rfl) (hks : (backToKw pos (keywordEach kws X.env)).filterMap (·.1) = ks := by rfl) (hdb : (x == ("__debug__" : Str)) = false := by decide)
    (hpl : ((backTo pos (starEach [] X.env)).any (·.1) || (backToKw pos (keywordEach kws X.env)).any (·.1.isNone)) = false := by rfl) :
    FE g X W (.Call (.Name x p) [] kws pos) (callE (mkM c m fin) argsN kk) := by
  have hM2 := mono_mkM (c := c) hM hf.mono
  refine ⟨⟨fun pins s σ H Q I ⟨Z, F, st, ρ, E, N, q⟩ => ?_⟩, mono_callE hM2 (fun _ => mono_pure _) hkw.mono⟩
  refine wpAny_Call_Name_kw (ld_glob I hg hm ?_ hdb)
  refine PySem.W.callWith_KW0 (h₀ := X.base) I.ok.mod.kin Mk.kp hall ?_ hpl
  refine thn (hkw.pk.run pos pins s σ H _ I (kwGo hM2 hkw N (ds := []) .nil q)) fun ws s2 ⟨zs, H2, I2, rz, q2⟩ => ⟨I2.kIn, ?_⟩
  rw [hks]
  exact run_mk (vs := []) (us := []) Mk C hr tk I2 .nil rz fun y dx n1 n2 n3 => mkGo hM hf q2 n1 n2 n3
/-- cls(e, .., k = v): the class in a slot -/
theorem fe_makeL1 {c : Str} {i : Nat} {fin : D → M Ex D} (hf : Fin g fin) (Mk : Mk X.K (g.cl c) f) (C : Cal g X.prog X.w X.K X.mg X.base k f ks m) (hM : MonoF m) (hr : Room (k + 1) X.A) (tk : Takes X W) (hN : X.N[i]? = some x) (hv : Vis X.env.scope x) (ha : FA g X W (e :: es) a) (hkw : FK g X W kws kk)
    (hall : (backToKw pos (keywordEach kws X.env)).all (·.1.isSome) = true := by rfl) (hks : (backToKw pos (keywordEach kws X.env)).filterMap (·.1) = ks := by rfl) (hdb : (x == ("__debug__" : Str)) = false := by decide) (hcd : (x == ("__classdict__" : Str)) = false := by decide)
    (he : starEach (e :: es) X.env = (false, eval e X.env) :: starEach es X.env := by rfl) (hpl : ((backTo pos (starEach (e :: es) X.env)).any (·.1) || (backToKw pos (keywordEach kws X.env)).any (·.1.isNone)) = false := by rfl) :
    FE g X W (.Call (.Name x p) (e :: es) kws pos) (fun ρ => bindM (needM (ρ[i]? = some (some (.cls c)))) fun _ => callE (mkM c m fin) a kk ρ) := by
  have hM2 := mono_mkM (c := c) hM hf.mono
  refine ⟨⟨fun pins s σ H Q I ⟨Z, F, st, ρ, E, N, hi, q⟩ => ?_⟩, fun ρ => mono_bind (mono_need _) fun _ => mono_callE hM2 ha.mono hkw.mono ρ⟩
  obtain ⟨v, e', rv⟩ := N.env.2 i _ hi
  unfold RelD at rv
  subst rv
  refine wpAny_Call_Name_kw (thn ((pe_var (pos := p) hN hv hdb hcd).run pins s σ H (fun v H' => v = .ref (g.cl c) ∧ H' = H) I ⟨_, e', rfl, rfl⟩) fun u s0 ⟨v, H0, I0, rv, ev, eH⟩ => ?_)
  subst ev
  subst eH
  cases (show u = Value.ref (g.cl c) from rv)
  refine PySem.W.callWith_KW (h₀ := X.base) I0.ok.mod.kin Mk.kp hall (thn (ha.pa.run pos pins s0 σ H0 _ I0 (callGo hM2 ha hkw N q)) fun us s1 ⟨vs, H1, I1, r, q⟩ => ?_) hpl he
  refine thn (hkw.pk.run pos pins s1 σ H1 _ I1 q) fun ws s2 ⟨zs, H2, I2, rz, q2⟩ => ⟨I2.kIn, ?_⟩
  rw [hks]
  exact run_mk Mk C hr tk I2 r rz fun y dx n1 n2 n3 => mkGo hM hf q2 n1 n2 n3
/-! ### classes -/
theorem fe_cval {c fl : Str} {d : D} {mc u : Value} {v : V} (hK : X.K = g.K) (hr : ClX.CRead g.K (g.cl c) mc) (hv : ClX.CVal g.K (g.cl c) mc fl v u) (r : ∀ F, RelD g F d v) (h : PE X e (tC (.ref (g.cl c)))) (hb : attributeBase e fl X.env (eval e X.env) = eval e X.env := by rfl) : FE g X W (.Attribute e fl pos) (cst d) :=
  ⟨PE.imp (ClX.pe_cval h hb) fun σ H Q ⟨Z, F, st, ρ, E, N, q⟩ => by
    rw [hK]
    exact ⟨_, mc, v, u, rfl, hr, hv, tX.done N (r F) q⟩, fun _ => mono_pure _⟩
/-- C.m(e, ..), a classmethod -/
theorem fe_cmeth {c mn : Str} {mc : Value} {pp : Addr} {o : Expr} {pl : Sem Bool} {apos : Pos} (C : Cal g X.prog X.w X.K X.mg X.base k f [] m) (hM : MonoF m) (hr : Room k X.A) (tk : Takes X W) (ho : PE X o (tC (.ref (g.cl c)))) (hR : ClX.CRead X.K (g.cl c) mc) (hC : ClX.CMet X.K (g.cl c) mc mn pp f) (ha : FA g X W (e :: es) a)
    (hst : starEach (e :: es) X.env = (false, eval e X.env) :: starEach es X.env := by rfl) (hpl : (backTo pos (starEach es X.env)).any (·.1) = false := by rfl)
    (ht : eval (.Call (.Attribute o mn apos) (e :: es) [] pos) X.env = (do
      let ov ← eval o X.env
      standAt apos.atName
      let (f, first) ← holding [ov] (getMethod ov mn pl)
      callWith pos f first (backTo pos (starEach (e :: es) X.env)) (backToKw pos (keywordEach [] X.env))) := by rfl) :
    FE g X W (.Call (.Attribute o mn apos) (e :: es) [] pos) (callE (fun ds es => m (.cls c :: ds) es) a argsN) := by
  have hM2 := hM.cons (.cls c)
  refine ⟨⟨fun pins s σ H Q I ⟨Z, F, st, ρ, E, N, q⟩ => ?_⟩, mono_callE hM2 ha.mono fun _ => mono_pure _⟩
  refine PySem.W.methodCall_KW (pl := pl) (thn (ho.run pins s σ H (fun v H' => v = .ref (g.cl c) ∧ H' = H) I ⟨rfl, rfl⟩) fun u s1 ⟨v, H1, I1, rx, ex, eh⟩ => ?_) ht
  subst ex
  subst eh
  obtain rfl : u = Value.ref (g.cl c) := rx
  refine ClX.getmethcm_ok I1 hR hC fun s2 I2 => ?_
  refine ClX.callwith_cm I2 (ClX.base_none I1 (Nat.le_refl _)) hC.fi (thn (ha.pa.run pos _ s2 σ H1 _ I2 (callGoX hM ha fk_nil N relD_cls q)) fun us s3 ⟨vs, H2, I3, rv, q2⟩ => ⟨⟨ClX.pin_at I3, I3.kIn⟩, ?_⟩) hst hpl
  have q3 : spK g m (.ref (g.cl c) :: vs) [] H2 Q (WE W σ) := by
    obtain ⟨Z, F, st, ρ, E, N, q⟩ := q2
    exact q [] F H2 (Same.refl _) N.sim .nil
  have z : wpAny (model X.prog X.w) X.A (call (.ref s1.heap.objs.size) us) (EP X ((s1.heap.objs.size, PySem.W.methodObj (.ref f) (.ref (g.cl c))) :: pins) σ Q) X.xe s3 :=
    wpAny_call (PySem.W.method_call (ClX.pin_at I3) (code_cal (us := .ref (g.cl c) :: us) (ws := []) (vs := .ref (g.cl c) :: vs) C hr tk I3 (.cons rfl rv) .nil q3))
  exact thn z fun _ _ y => ClX.unpinE y
end DL

/-! ### enumerate over tuples -/
namespace DL
open PySem L2
/-! ### for i, x in enumerate(t), t a tuple -/
section
open PySem.W
set_option maxHeartbeats 2000000 in
theorem meets_enum1 {v : Value} {o : Obj} {H : Heap → Prop} (B : Begins v o H) :
    Meets (Builtin.«enumerate.__new__» ⟨[.type "enumerate", v], []⟩) (fun _ R s => H s.heap ∧
      R (.ok (.ret (.ref (s.heap.push o).objs.size))) { s with heap := (s.heap.push o).push { cls := .type "enumerate", data := .fields #[.none, .bool false, .ref s.heap.objs.size, rawInt 0, .none, .none] } }) :=
  .of_wp fun prog w A R s h => by
    obtain ⟨hp, g, d, tk, os⟩ := s; obtain ⟨h1, h⟩ := h
    have hsub := sub_enumerate
    have q1 : ∀ {A' : Around} {E : Value → Shared → Prop} {Q : Value → Shared → Prop}, Q (.ref hp.objs.size) ⟨hp.push o, g, d, tk, os⟩ → wpAny (model prog w) A' (pyIter v) Q E ⟨hp, g, d, tk, os⟩ :=
      fun q => B.iter prog w _ _ ⟨hp, g, d, tk, os⟩ _ h1 q
    wp_walk using q1
    refine wpAny_stack_any fun st => wpAny_pure ?_
    split
    · rename_i c _ _ _ _ _
      cases (c == Value.type "enumerate")
      · wp_walk using q1
        exact ⟨_, rfl, h⟩
      · wp_walk using q1
        exact ⟨_, rfl, h⟩
    · wp_walk using q1
      exact ⟨_, rfl, h⟩
theorem call_enum1 {prog : Program} {w : World} {A : Around} {E : Value → Shared → Prop} {s : Shared} {v : Value} {o : Obj} {H : Heap → Prop} {Q : Value → Shared → Prop} (B : Begins v o H) (h1 : H s.heap)
    (h : ∀ h', IsEnum h' (s.heap.objs.size + 1) s.heap.objs.size 0 .none → h'.get? s.heap.objs.size = some o → h'.objs.size = s.heap.objs.size + 2 →
      (∀ b o, s.heap.get? b = some o → h'.get? b = some o) → Q (.ref (s.heap.objs.size + 1)) { s with heap := h' }) :
    wpAny (model prog w) A (call (.type "enumerate") [v]) Q E s := by
  refine callType_new F.called_enumerate (by decide) (F.typeCall_enumerate_1 _) (F.newCall_enumerate_1 _) (fun obj => F.args_object_init_2 obj _) F.entry_enumerate_new
    (meets_enum1 B) ⟨h1, ?_⟩
  have hz : (s.heap.push o).objs.size = s.heap.objs.size + 1 := Heap.size_push ..
  show _ ∧ _
  rw [hz]
  have he : IsEnum ((s.heap.push o).push { cls := .type "enumerate", data := .fields #[.none, .bool false, .ref s.heap.objs.size, rawInt 0, .none, .none] }) (s.heap.objs.size + 1) s.heap.objs.size 0 .none := by
    have := Heap.get?_push_size (s.heap.push o) (o := { cls := .type "enumerate", data := .fields #[.none, .bool false, .ref s.heap.objs.size, rawInt 0, .none, .none] }) rfl
    rw [hz] at this; exact this
  exact ⟨⟨_, he, rfl⟩, h _ he (Heap.get?_push_of_some _ (Heap.get?_push_size _ B.free)) (by rw [Heap.size_push, hz]) fun b o x => Heap.get?_push_of_some _ (Heap.get?_push_of_some _ x)⟩
end
def IteT (K : PySem.W.Frag) (a : Addr) : It :=
  ⟨fun i H => ∃ (xs : List V) (x : V), SqT K H a xs ∧ xs[i]? = some x, fun i H v H' => ∃ T x, v = .ref T ∧ H T = none ∧ H' = upd H T (.tup [.int (i : Nat), x]) ∧ ∀ xs, SqT K H a xs → xs[i]? = some x, fun i H => ∃ xs : List V, SqT K H a xs ∧ xs.length = i⟩
theorem turn_enumT {P : Program} {w : World} {K : PySem.W.Frag} {elts : List Expr} {kk : Nat} {tpos : Pos} (a e it : Addr) :
    Turn P w K (.Tuple elts kk tpos) (IteT K a) [e, it] e (fun i h => (∃ old, IsEnum h e it ((i : Nat) : Int) old) ∧ h.IsTupleIter it a i ∧ e ≠ it ∧ a ≠ it ∧ a ≠ e) where
  mem := by simp
  obj := fun i h st b hb => by
    obtain ⟨⟨old, he⟩, ⟨o, ho, hc, hd⟩, _⟩ := st
    have e' : b = e ∨ b = it := by simpa using hb
    rcases e' with z | z
    · rw [z]; exact ⟨_, he, fun v q => nomatch q⟩
    · rw [z]; exact ⟨o, ho, fun v q => by rw [hd] at q; cases q⟩
  keep := fun i h h' st k => let ⟨⟨old, he⟩, hi, hne, h1, h2⟩ := st; ⟨⟨old, k e (by simp) _ he⟩, hi.at fun o q => k it (by simp) o q, hne, h1, h2⟩
  item := by
    intro X hP hw hK hc i pins s σ H E I hf st hg
    subst hP hw hK
    obtain ⟨⟨old, he⟩, hit, hne, ha1, ha2⟩ := st
    obtain ⟨xs, x, hq, hx⟩ := hg
    obtain ⟨its, rv, p, hz⟩ := I.tuple hq
    obtain ⟨u, hu, ru⟩ := rv.get hx
    have hel : e < s.heap.objs.size := Heap.lt_size he
    have hil : it < s.heap.objs.size := by obtain ⟨_, q, _⟩ := hit; exact Heap.lt_size q
    have hlt : i < its.toArray.size := by
      have := (List.getElem?_eq_some_iff.mp hu).1
      simpa using this
    refine wpAny_pyNext_enum_itemD (Draws.tuple (A := X.A.in1) (I.ok.hd hc) it a ha1 its.toArray) he ⟨hit, p⟩ hlt hne (by simp [hne, Ne.symm ha2]) fun y h' tk hy ho hst hT hsz hk => ?_
    obtain rfl : y = u := by
      have h2 : its.toArray[i]? = some u := by simpa using hu
      exact Option.some.inj (hy.symm.trans h2)
    obtain ⟨hit', p'⟩ := hst
    refine ⟨_, rfl, wpAny_letOwnedTupleGo_enum (s := { s with heap := h', toks := tk + 1 }) ho fun h'' he' sb => ?_⟩
    have hT2 : h''.get? s.heap.objs.size = some { cls := .type "tuple", data := .seq #[.int i tk, y] } := (sb.2 _ (Nat.ne_of_gt hel)).trans hT
    have new : ObjOk X.prog X.w (upd H s.heap.objs.size (.tup [.int (i : Nat), x])) h'' s.heap.objs.size (.tup [.int (i : Nat), x]) :=
      ⟨by show 2 ≤ sizeLine; decide, [.int i tk, y], .cons ⟨_, rfl⟩ (.cons ru .nil), ⟨_, hT2, rfl, _, rfl⟩⟩
    have I1 : Inv X pins σ (upd H s.heap.objs.size (.tup [.int (i : Nat), x])) { s with heap := h'', toks := tk + 1 } :=
      I.turnedNew (ch := [e, it]) (fun b ob hb q => (sb.2 b (fun z => hb (by simp [z]))).trans (hk b ob (fun z => hb (by simp [z])) (fun z => hb (by simp [z])) q)) hf (Nat.le_refl _) new
    refine ⟨.ref s.heap.objs.size, _, I1, rfl, ⟨_, x, rfl, I.hok.fresh (Nat.le_refl _), rfl, fun ys hy => by rw [I.tuple_inj hy hq]; exact hx⟩, ⟨⟨y, ?_⟩, hit'.at fun o q => (sb.2 it (Ne.symm hne)).trans q, hne, ha1, ha2⟩, fun b hb => ?_⟩
    · have e1 : ((i + 1 : Nat) : Int) = (i : Int) + 1 := by omega
      rw [e1]; exact he'
    · have hb' : b < s.heap.objs.size := by
        have e' : b = e ∨ b = it := by simpa using hb
        rcases e' with z | z
        · rw [z]; exact hel
        · rw [z]; exact hil
      rw [upd_ne (Nat.ne_of_lt hb')]
      exact (hf b hb).1
  done := by
    intro X hP hw hK hc i pins s σ H E I hf st hg
    subst hP hw hK
    obtain ⟨⟨old, he⟩, hit, hne, ha1, ha2⟩ := st
    obtain ⟨xs, hq, hx⟩ := hg
    obtain ⟨its, rv, p, hz⟩ := I.tuple hq
    obtain ⟨f0, f1, f2, f3, f4, f5⟩ := hf it (by simp)
    have hl : its.toArray.size = i := by rw [List.size_toArray, ← rv.length, hx]
    subst hl
    exact wpAny_pyNext_enum_endD (Draws.tuple (A := X.A.in1) (I.ok.hd hc) it a ha1 its.toArray) he ⟨hit, p⟩ fun h' eb => ⟨rfl, I.turned (t' := s.toks) (fun b o hb q => eb b o hb q) f0 f1 f3 f4 f5⟩
  self := fun A i s Q E st h => let ⟨⟨_, he⟩, _⟩ := st; wpAny_pyIter_enum he h
def iEnumT (K : PySem.W.Frag) (ta : TA) : TI := fun σ H R => ta σ H fun vs H1 => ∃ a xs, vs = [.ref a] ∧ SqT K H1 a xs ∧ R (IteT K a) H1
theorem pi_enumT {X : Cx} {e : Expr} {ta : TA} {p pos tpos : Pos} {elts : List Expr} {kk : Nat} (hg : Gl X "enumerate") (hm : X.mg "enumerate" = none) (ha : PA X [e] ta) (hs : starEach [e] X.env = [(false, eval e X.env)] := by rfl) :
    PI X (.Tuple elts kk tpos) (.Call (.Name "enumerate" p) [e] [] pos) (iEnumT X.K ta) := by
  refine ⟨fun pins s σ H R I h => ?_⟩
  refine PyProof.Rows.Call_ (ld_blt I hg hm PyProof.Rows.boot_enumerate (PyProof.Rows.callWith_type1 (thn (ha.run pos pins s σ H _ I h) fun us s1 ⟨vs, H1, I1, r1, q1⟩ => ?_) hs rfl))
  obtain ⟨a, xs, ex, hq, q⟩ := q1
  subst ex
  cases r1 with
  | cons r rr =>
    cases rr
    cases r
    obtain ⟨its, rv, p', hz⟩ := I1.tuple hq
    have hal : a < s1.heap.objs.size := by obtain ⟨_, q, _⟩ := p'; exact Heap.lt_size q
    refine call_enum1 (begins_tuple a its.toArray) p' fun h' he hit hsz hk => wpAny_pyIter_enum he ?_
    have I2 : Inv X pins σ H1 { s1 with heap := h' } := I1.kept (t' := s1.toks) hk
    refine ⟨s1.heap.objs.size + 1, [s1.heap.objs.size + 1, s1.heap.objs.size], _, _, H1, rfl, I2, turn_enumT a (s1.heap.objs.size + 1) s1.heap.objs.size, ⟨⟨.none, he⟩, ⟨_, hit, rfl, rfl⟩, Nat.succ_ne_self _, Nat.ne_of_lt hal, Nat.ne_of_lt (Nat.lt_succ_of_lt hal)⟩, fun b hb => ?_, q⟩
    have e' : b = s1.heap.objs.size + 1 ∨ b = s1.heap.objs.size := by simpa using hb
    have hle : s1.heap.objs.size ≤ b := by
      rcases e' with z | z
      · rw [z]; exact Nat.le_add_right _ _
      · rw [z]; exact Nat.le_refl _
    exact I1.fpOk hle (I1.hok.fresh hle)
theorem walk_enumT {K : PySem.W.Frag} {a : Addr} {xs : List V} : Walk (IteT K a) xs.length (fun H => SqT K H a xs) (YPair (fun i => some (.int (i : Nat))) (fun i => xs[i]?)) := by
  refine ⟨fun i _ hi q => ⟨xs, xs[i], q, by simp [hi]⟩, fun _ q => ⟨xs, q, rfl⟩, fun i H v H' _ q y => ?_⟩
  obtain ⟨T, x, h1, h2, h3, h4⟩ := y
  exact ⟨T, .int (i : Nat), x, h1, h2, h3, rfl, h4 xs q⟩
end DL

/-! ### walks, comprehensions -/
namespace DL
open PySem L2
variable {g : G} {Z F F' H H' : Hp} {W : WX} {σ : St} {ρ : Env} {st : S} {α β γ δ : Type} {X : Cx} {e e1 e2 e3 tg : Expr} {pos : Pos}
def lstOf (st : S) : D → Option (List D)
  | .lst xs => some xs
  | .ref a => obL (st.map a)
  | _ => none
def tupOf : D → Option (List D)
  | .tup xs => some xs
  | _ => none
/-- what must stand while d is walked -/
def srcP (d : D) (xs : List D) : S → Prop := match d with
  | .ref a => fun s => obL (s.map a) = some xs
  | _ => fun _ => True
/-- a list's address, and its values while it stands -/
theorem Sim.lstOf {d : D} {v : V} {xs : List D} (sim : Sim g Z st F H) (r : RelD g F d v) (h : DL.lstOf st d = some xs) : ∃ a, v = .ref a ∧ ∀ Z' F' H' st', Same F F' → Sim g Z' st' F' H' → srcP d xs st' → ∃ vs, SqL g.K H' a vs ∧ RelDs g F' xs vs := by
  cases d with
  | lst ds =>
    cases (Option.some.inj h)
    unfold RelD at r
    obtain ⟨a, vs, rfl, h1, h2⟩ := r
    exact ⟨a, rfl, fun Z' F' H' st' e s _ => ⟨vs, SqL.of (s.same _ _ (e _ _ h1)), h2.mono e⟩⟩
  | ref a =>
    unfold RelD at r
    subst r
    refine ⟨a, rfl, fun Z' F' H' st' e s p => ?_⟩
    obtain ⟨vs, h1, h2⟩ := s.lst (show obL (st'.map a) = some xs from p)
    exact ⟨vs, SqL.of h1, h2⟩
  | _ => cases h
theorem srcP_now {d : D} {xs : List D} (h : DL.lstOf st d = some xs) : srcP d xs st := by
  cases d with
  | lst ds => exact trivial
  | ref a => exact h
  | _ => cases h
/-- a walk whose values are fixed by what stands -/
theorem walkD_of {J : It} {items : List D} {P : S → Prop} {G : Hp → List V → Prop} (hl : items.length ≤ sizeLine) (hG : ∀ Z' F' H' st', Same F F' → Sim g Z' st' F' H' → P st' → ∃ vs, G H' vs ∧ RelDs g F' items vs)
    (go : ∀ H vs i, G H vs → i < vs.length → J.go i H) (stop : ∀ H vs, G H vs → J.stop vs.length H) (yld : ∀ H vs i v H', G H vs → i < vs.length → J.yld i H v H' → H' = H ∧ vs[i]? = some v) (Z : Hp) : WalkD g Z J F items P where
  len := hl
  goes := fun F' H' st i e s p hi => by
    obtain ⟨vs, h1, h2⟩ := hG Z F' H' st e s p
    exact go H' vs i h1 (by rw [h2.len]; exact hi)
  stops := fun F' H' st e s p => by
    obtain ⟨vs, h1, h2⟩ := hG Z F' H' st e s p
    rw [← h2.len]; exact stop H' vs h1
  yields := fun F' H' st i v H'' e s p hi y => by
    obtain ⟨vs, h1, h2⟩ := hG Z F' H' st e s p
    obtain ⟨rfl, h3⟩ := yld H' vs i v H'' h1 (by rw [h2.len]; exact hi) y
    obtain ⟨d, h4, h5⟩ := h2.get' h3
    exact ⟨F', d, Same.refl _, s, h4, h5⟩
def iterL (m : Env → M Ex D) : Env → M Ex Src := fun ρ => bindM (m ρ) fun d => seeM fun st => (lstOf st d).bind fun xs => if xs.length ≤ sizeLine then some ⟨xs, srcP d xs⟩ else none
def iterT (m : Env → M Ex D) : Env → M Ex Src := fun ρ => bindM (m ρ) fun d => seeM fun _ => (tupOf d).bind fun xs => if xs.length ≤ sizeLine then some ⟨xs, fun _ => True⟩ else none
/-- from a value's reading to a walk's -/
theorem tI.go {n : Env → M Ex α} {β : Type} {R1 : Hp → α → β → Prop} {k : α → M Ex Src} {R : It → Hp → Prop} {P : β → Hp → Prop} (hn : ∀ ρ, Mono (n ρ)) (hk : ∀ a, Mono (k a)) (h : tI g W (fun ρ => bindM (n ρ) k) σ H R)
    (next : ∀ Z d v F2 st2 H2, Sim g Z st2 F2 H2 → R1 F2 d v → k d st2 (ResI g Z F2 R) (fun _ _ => True) → P v H2) : tX g R1 W n σ H P := by
  obtain ⟨Z, F, st, ρ, E, N, q⟩ := h
  refine ⟨Z, F, st, ρ, E, N, hn ρ _ _ _ _ _ (fun d s hk1 v F' H' e sim r => ?_) (fun _ _ x => x) q⟩
  exact next Z d v F' s H' sim r (hk d _ _ _ _ _ (fun p s z F2 H2 J e2 => z F2 H2 J (e.trans e2)) (fun _ _ _ => trivial) hk1)
theorem fi_list {m : Env → M Ex D} (hK : X.K = g.K) (h : FE g X W e m) : FI g X W tg e (iterL m) := by
  refine ⟨PI.imp (pi_list h.pe) fun σ H R q => tI.go (R1 := RelD g) h.mono (fun _ => mono_see _) q fun Z d v F st H1 sim r ⟨p, hp, q⟩ => ?_, fun ρ => mono_bind (h.mono ρ) fun _ => mono_see _⟩
  obtain ⟨xs, h1, h2⟩ := Option.bind_eq_some_iff.mp hp
  split at h2
  · rename_i hl
    cases h2
    obtain ⟨a, rfl, hs⟩ := sim.lstOf r h1
    obtain ⟨vs, hv, _⟩ := hs Z F H1 st (Same.refl _) sim (srcP_now h1)
    rw [hK]
    refine ⟨a, rfl, ⟨vs, hv⟩, q F H1 _ (Same.refl _) sim fun Z' _ => walkD_of (G := fun H vs => SqL g.K H a vs) hl hs ?_ ?_ ?_ Z'⟩
    · exact fun H vs i hG hi => ⟨vs, vs[i], hG, by simp [hi]⟩
    · exact fun H vs hG => ⟨vs, hG, Nat.le_refl _⟩
    · exact fun H vs i v H' hG hi y => ⟨y.1, y.2 vs hG⟩
  · exact nomatch h2
theorem fi_tup {m : Env → M Ex D} (hK : X.K = g.K) (h : FE g X W e m) : FI g X W tg e (iterT m) := by
  refine ⟨PI.imp (pi_tup h.pe) fun σ H R q => tI.go (R1 := RelD g) h.mono (fun _ => mono_see _) q fun Z d v F st H1 sim r ⟨p, hp, q⟩ => ?_, fun ρ => mono_bind (h.mono ρ) fun _ => mono_see _⟩
  obtain ⟨xs, h1, h2⟩ := Option.bind_eq_some_iff.mp hp
  split at h2
  · rename_i hl
    cases h2
    cases d with
    | tup ds =>
      cases (Option.some.inj h1)
      unfold RelD at r
      obtain ⟨a, vs, rfl, hv, hr⟩ := r
      rw [hK]
      refine ⟨a, rfl, ⟨vs, sqT_mono sim.same hv⟩, q F H1 _ (Same.refl _) sim fun Z' _ => walkD_of (G := fun H vs => SqT g.K H a vs) hl (fun Z' F' H' st' e s _ => ⟨vs, sqT_mono s.same (sqT_mono e hv), hr.mono e⟩) ?_ ?_ ?_ Z'⟩
      · exact fun H vs i hG hi => ⟨vs, vs[i], hG, by simp [hi]⟩
      · exact fun H vs hG => ⟨vs, hG, Nat.le_refl _⟩
      · exact fun H vs i v H' hG hi y => ⟨y.1, y.2 vs hG⟩
    | _ => cases h1
  · exact nomatch h2
/-- the signs of a text -/
def signs (z : Str) : List D := z.cps.toList.map fun c => .str ⟨#[c]⟩
def iterS (m : Env → M Ex D) : Env → M Ex Src := fun ρ => bindM (m ρ) fun d => seeM fun _ => match d with
  | .str z => if z.length ≤ sizeLine then some ⟨signs z, fun _ => True⟩ else none
  | _ => none
theorem fi_str {m : Env → M Ex D} (h : FE g X W e m) : FI g X W tg e (iterS m) := by
  refine ⟨PI.imp (pi_str h.pe) fun σ H R q => tI.go (R1 := RelD g) h.mono (fun _ => mono_see _) q fun Z d v F st H1 sim r ⟨p, hp, q⟩ => ?_, fun ρ => mono_bind (h.mono ρ) fun _ => mono_see _⟩
  cases d with
  | str z =>
    replace hp : (if z.length ≤ sizeLine then some (⟨signs z, fun _ => True⟩ : Src) else none) = some p := hp
    split at hp
    · rename_i hl
      cases hp
      unfold RelD at r
      have hlen : (signs z).length = z.cps.size := by unfold signs; simp
      refine ⟨z, r, q F H1 _ (Same.refl _) sim fun Z' _ => ⟨by rw [hlen]; exact hl, fun F' H' st i _ _ _ hi => by rw [hlen] at hi; exact hi, fun F' H' st _ _ _ => by rw [hlen]; exact Nat.le_refl _, fun F' H' st i v H'' _ s _ hi y => ?_⟩⟩
      obtain ⟨rfl, c, hc, rfl⟩ := y
      refine ⟨F', .str ⟨#[c]⟩, Same.refl _, s, ?_, relD_str⟩
      unfold signs
      rw [List.getElem?_map, Array.getElem?_toList, hc]; rfl
    · cases hp
  | _ => exact nomatch hp
def intsD (lo : Int) (n : Nat) : List D := (List.range n).map fun i => .int (lo + (i : Nat))
theorem ints_len (lo : Int) (n : Nat) : (intsD lo n).length = n := by unfold intsD; simp
theorem walkD_ints {lo : Int} {n : Nat} (h : n ≤ sizeLine) (Z F : Hp) : WalkD g Z (Itr lo n) F (intsD lo n) fun _ => True where
  len := by rw [ints_len]; exact h
  goes := fun F' H' st i _ _ _ hi => by rw [ints_len] at hi; exact hi
  stops := fun F' H' st _ _ _ => by rw [ints_len]; exact Nat.le_refl _
  yields := fun F' H' st i v H'' _ s _ hi y => by
    rw [ints_len] at hi
    obtain ⟨rfl, rfl⟩ := y
    refine ⟨F', .int (lo + i), Same.refl _, s, ?_, relD_int⟩
    unfold intsD
    rw [List.getElem?_map, List.getElem?_range hi]; rfl
def range1 : List D → Option Src
  | [.int j] => if j ≤ 1000000 ∧ -1000000 ≤ j then some ⟨intsD 0 j.toNat, fun _ => True⟩ else none
  | _ => none
def range2 : List D → Option Src
  | [.int i, .int j] => if j ≤ 1000000 ∧ -1000000 ≤ j ∧ i ≤ 1000000 ∧ -1000000 ≤ i then some ⟨intsD i (j - i).toNat, fun _ => True⟩ else none
  | _ => none
theorem range1_inv {ds : List D} {p : Src} (h : range1 ds = some p) : ∃ j, ds = [.int j] ∧ (j ≤ 1000000 ∧ -1000000 ≤ j) ∧ p = ⟨intsD 0 j.toNat, fun _ => True⟩ := by
  unfold range1 at h
  split at h
  · rename_i j
    split at h
    · rename_i hl
      cases h
      exact ⟨j, rfl, hl, rfl⟩
    · cases h
  · cases h
theorem range2_inv {ds : List D} {p : Src} (h : range2 ds = some p) : ∃ i j, ds = [.int i, .int j] ∧ (j ≤ 1000000 ∧ -1000000 ≤ j ∧ i ≤ 1000000 ∧ -1000000 ≤ i) ∧ p = ⟨intsD i (j - i).toNat, fun _ => True⟩ := by
  unfold range2 at h
  split at h
  · rename_i i j
    split at h
    · rename_i hl
      cases h
      exact ⟨i, j, rfl, hl, rfl⟩
    · cases h
  · cases h
def iterR (r : List D → Option Src) (a : Env → M Ex (List D)) : Env → M Ex Src := fun ρ => bindM (a ρ) fun ds => seeM fun _ => r ds
theorem fi_range1 {p : Pos} {a : Env → M Ex (List D)} (hg : Gl X "range") (hm : X.mg "range" = none) (h : FA g X W [e] a) (hs : starEach [e] X.env = [(false, eval e X.env)] := by rfl) : FI g X W tg (.Call (.Name "range" p) [e] [] pos) (iterR range1 a) := by
  refine ⟨PI.imp (pi_range1 hg hm h.pa hs) fun σ H R q => tI.go (R1 := RelDs g) h.mono (fun _ => mono_see _) q fun Z d v F st H1 sim r ⟨p, hp, q⟩ => ?_, fun ρ => mono_bind (h.mono ρ) fun _ => mono_see _⟩
  obtain ⟨j, rfl, hl, rfl⟩ := range1_inv hp
  obtain ⟨v, vs, rfl, r1, r2⟩ := r.cons_inv
  rw [r2.nil_inv]
  unfold RelD at r1
  have hz : sizeLine = 16777216 := by decide
  exact ⟨j, by rw [r1], by omega, by omega, q F H1 _ (Same.refl _) sim fun Z' _ => walkD_ints (by omega) Z' F⟩
theorem fi_range2 {p : Pos} {a : Env → M Ex (List D)} (hg : Gl X "range") (hm : X.mg "range" = none) (h : FA g X W [e1, e2] a) (hs : starEach [e1, e2] X.env = [(false, eval e1 X.env), (false, eval e2 X.env)] := by rfl) (hs2 : starEach [e2] X.env = [(false, eval e2 X.env)] := by rfl) : FI g X W tg (.Call (.Name "range" p) [e1, e2] [] pos) (iterR range2 a) := by
  refine ⟨PI.imp (pi_range2 hg hm h.pa hs hs2) fun σ H R q => tI.go (R1 := RelDs g) h.mono (fun _ => mono_see _) q fun Z d v F st H1 sim r ⟨p, hp, q⟩ => ?_, fun ρ => mono_bind (h.mono ρ) fun _ => mono_see _⟩
  obtain ⟨i, j, rfl, hl, rfl⟩ := range2_inv hp
  obtain ⟨v, vs, rfl, r1, r2⟩ := r.cons_inv
  obtain ⟨v2, vs2, rfl, r3, r4⟩ := r2.cons_inv
  rw [r4.nil_inv]
  unfold RelD at r1 r3
  have hz : sizeLine = 16777216 := by decide
  exact ⟨i, j, by rw [r1, r3], by omega, q F H1 _ (Same.refl _) sim fun Z' _ => walkD_ints (by omega) Z' F⟩
/-! ### pairs: enumerate, zip -/
/-- a walk that hands out new pairs -/
theorem walkD_pair {J : It} {xs ys : List D} {P : S → Prop} {G : Hp → List V → List V → Prop} (hl : xs.length ≤ sizeLine) (hG : ∀ Z' F' H' st', Same F F' → Sim g Z' st' F' H' → P st' → ∃ vs us, G H' vs us ∧ RelDs g F' xs vs ∧ RelDs g F' ys us)
    (go : ∀ H vs us i, G H vs us → i < vs.length → i < us.length → J.go i H) (stop : ∀ H vs us, G H vs us → J.stop (min vs.length us.length) H)
    (yld : ∀ H vs us i v H', G H vs us → i < vs.length → i < us.length → J.yld i H v H' → ∃ T x y, v = .ref T ∧ H T = none ∧ H' = upd H T (.tup [x, y]) ∧ vs[i]? = some x ∧ us[i]? = some y) (Z : Hp) : WalkD g Z J F ((xs.zip ys).map fun q => .tup [q.1, q.2]) P where
  len := by rw [List.length_map, List.length_zip]; omega
  goes := fun F' H' st i e s p hi => by
    obtain ⟨vs, us, h1, h2, h3⟩ := hG Z F' H' st e s p
    rw [List.length_map, List.length_zip] at hi
    exact go H' vs us i h1 (by rw [h2.len]; omega) (by rw [h3.len]; omega)
  stops := fun F' H' st e s p => by
    obtain ⟨vs, us, h1, h2, h3⟩ := hG Z F' H' st e s p
    rw [List.length_map, List.length_zip, ← h2.len, ← h3.len]
    exact stop H' vs us h1
  yields := fun F' H' st i v H'' e s p hi yy => by
    obtain ⟨vs, us, h1, h2, h3⟩ := hG Z F' H' st e s p
    rw [List.length_map, List.length_zip] at hi
    obtain ⟨T, x, y, rfl, nT, rfl, e1, e2⟩ := yld H' vs us i v H'' h1 (by rw [h2.len]; omega) (by rw [h3.len]; omega) yy
    obtain ⟨d1, e3, r1⟩ := h2.get' e1
    obtain ⟨d2, e4, r2⟩ := h3.get' e2
    have sm := same_upd (o := .tup [x, y]) (s.free nT).1
    refine ⟨_, .tup [d1, d2], sm, s.new nT, ?_, by unfold RelD; exact ⟨T, [x, y], rfl, SqT.of upd_same, .cons (r1.mono sm) (.one (r2.mono sm))⟩⟩
    rw [List.getElem?_map, (List.getElem?_zip_eq_some (z := (d1, d2))).mpr ⟨e3, e4⟩]; rfl
def enumD (xs : List D) : List D := ((intsD 0 xs.length).zip xs).map fun q => .tup [q.1, q.2]
def zipD (xs ys : List D) : List D := (xs.zip ys).map fun q => .tup [q.1, q.2]
theorem rel_ints (F : Hp) (lo : Int) (n : Nat) : RelDs g F (intsD lo n) ((List.range n).map fun i => .int (lo + (i : Nat))) := by
  unfold intsD
  generalize List.range n = l
  induction l with
  | nil => exact .nil
  | cons i l ih => exact .cons relD_int ih
def one (ds : List D) : Option D := match ds with
  | [d] => some d
  | _ => none
theorem one_inv {ds : List D} {d : D} (h : one ds = some d) : ds = [d] := by
  unfold one at h
  split at h
  · cases h; rfl
  · cases h
def iterEL (a : Env → M Ex (List D)) : Env → M Ex Src := fun ρ => bindM (a ρ) fun ds => seeM fun st => (one ds).bind fun d => (lstOf st d).bind fun xs => if xs.length ≤ sizeLine then some ⟨enumD xs, srcP d xs⟩ else none
theorem fi_enumL {p tpos : Pos} {elts : List Expr} {n : Nat} {a : Env → M Ex (List D)} (hK : X.K = g.K) (hg : Gl X "enumerate") (hm : X.mg "enumerate" = none) (h : FA g X W [e] a) (hs : starEach [e] X.env = [(false, eval e X.env)] := by rfl) :
    FI g X W (.Tuple elts n tpos) (.Call (.Name "enumerate" p) [e] [] pos) (iterEL a) := by
  refine ⟨PI.imp (pi_enum hg hm h.pa hs) fun σ H R q => tI.go (R1 := RelDs g) h.mono (fun _ => mono_see _) q fun Z d v F st H1 sim r ⟨p, hp, q⟩ => ?_, fun ρ => mono_bind (h.mono ρ) fun _ => mono_see _⟩
  obtain ⟨d1, h0, hp⟩ := Option.bind_eq_some_iff.mp hp
  obtain ⟨xs, h1, h2⟩ := Option.bind_eq_some_iff.mp hp
  cases one_inv h0
  split at h2
  · rename_i hl
    cases h2
    obtain ⟨v, vs, rfl, r1, r2⟩ := r.cons_inv
    rw [r2.nil_inv]
    obtain ⟨a, rfl, hs⟩ := sim.lstOf r1 h1
    obtain ⟨vs, hv, _⟩ := hs Z F H1 st (Same.refl _) sim (srcP_now h1)
    rw [hK]
    refine ⟨a, vs, rfl, hv, q F H1 _ (Same.refl _) sim fun Z' _ => walkD_pair (G := fun H is vs => SqL g.K H a vs ∧ is = (List.range xs.length).map (fun i => V.int (0 + (i : Nat))) ∧ vs.length = xs.length) (by rw [ints_len]; exact hl) (fun Z' F' H' st' e s p => ?_) ?_ ?_ ?_ Z'⟩
    · obtain ⟨us, h3, h4⟩ := hs Z' F' H' st' e s p
      exact ⟨_, us, ⟨h3, rfl, h4.len⟩, rel_ints F' 0 xs.length, h4⟩
    · exact fun H is vs i hG _ hi => ⟨vs, vs[i], hG.1, by simp [hi]⟩
    · exact fun H is vs hG => ⟨vs, hG.1, by rw [hG.2.1, hG.2.2]; simp⟩
    · rintro H is vs i v H' ⟨g1, g2, g3⟩ hi1 hi2 ⟨T, x, e1, e2, e3, e4⟩
      refine ⟨T, _, x, e1, e2, e3, ?_, e4 vs g1⟩
      rw [g2, List.getElem?_map, List.getElem?_range (by omega)]
      simp
  · exact nomatch h2
def iterET (a : Env → M Ex (List D)) : Env → M Ex Src := fun ρ => bindM (a ρ) fun ds => seeM fun _ => (one ds).bind fun d => (tupOf d).bind fun xs => if xs.length ≤ sizeLine then some ⟨enumD xs, fun _ => True⟩ else none
theorem tupOf_inv {d : D} {xs : List D} (h : tupOf d = some xs) : d = .tup xs := by
  cases d with
  | tup ds => cases h; rfl
  | _ => cases h
theorem fi_enumT {p tpos : Pos} {elts : List Expr} {n : Nat} {a : Env → M Ex (List D)} (hK : X.K = g.K) (hg : Gl X "enumerate") (hm : X.mg "enumerate" = none) (h : FA g X W [e] a) (hs : starEach [e] X.env = [(false, eval e X.env)] := by rfl) :
    FI g X W (.Tuple elts n tpos) (.Call (.Name "enumerate" p) [e] [] pos) (iterET a) := by
  refine ⟨PI.imp (pi_enumT hg hm h.pa hs) fun σ H R q => tI.go (R1 := RelDs g) h.mono (fun _ => mono_see _) q fun Z d v F st H1 sim r ⟨p, hp, q⟩ => ?_, fun ρ => mono_bind (h.mono ρ) fun _ => mono_see _⟩
  obtain ⟨d1, h0, hp⟩ := Option.bind_eq_some_iff.mp hp
  obtain ⟨xs, h1, h2⟩ := Option.bind_eq_some_iff.mp hp
  cases one_inv h0
  cases tupOf_inv h1
  split at h2
  · rename_i hl
    cases h2
    obtain ⟨v, vs, rfl, r1, r2⟩ := r.cons_inv
    rw [r2.nil_inv]
    unfold RelD at r1
    obtain ⟨a, vs, rfl, hv, hr⟩ := r1
    rw [hK]
    refine ⟨a, vs, rfl, sqT_mono sim.same hv, q F H1 _ (Same.refl _) sim fun Z' _ => walkD_pair (G := fun H is vs => SqT g.K H a vs ∧ is = (List.range xs.length).map (fun i => V.int (0 + (i : Nat))) ∧ vs.length = xs.length) (by rw [ints_len]; exact hl) (fun Z' F' H' st' e s p => ?_) ?_ ?_ ?_ Z'⟩
    · exact ⟨_, vs, ⟨sqT_mono s.same (sqT_mono e hv), rfl, hr.len⟩, rel_ints F' 0 xs.length, hr.mono e⟩
    · exact fun H is vs i hG _ hi => ⟨vs, vs[i], hG.1, by simp [hi]⟩
    · exact fun H is vs hG => ⟨vs, hG.1, by rw [hG.2.1, hG.2.2]; simp⟩
    · rintro H is vs i v H' ⟨g1, g2, g3⟩ hi1 hi2 ⟨T, x, e1, e2, e3, e4⟩
      refine ⟨T, _, x, e1, e2, e3, ?_, e4 vs g1⟩
      rw [g2, List.getElem?_map, List.getElem?_range (by omega)]
      simp
  · exact nomatch h2
/-- zip of two tuples, of two lists -/
def zipSrc (st : S) (ds : List D) : Option Src := match ds with
  | [.tup xs, .tup ys] => if xs.length ≤ sizeLine then some ⟨zipD xs ys, fun _ => True⟩ else none
  | [d, e] => (lstOf st d).bind fun xs => (lstOf st e).bind fun ys => if xs.length ≤ sizeLine then some ⟨zipD xs ys, fun s => srcP d xs s ∧ srcP e ys s⟩ else none
  | _ => none
def iterZ (a : Env → M Ex (List D)) : Env → M Ex Src := fun ρ => bindM (a ρ) fun ds => seeM fun st => zipSrc st ds
theorem fi_zip {p tpos : Pos} {elts : List Expr} {n : Nat} {a : Env → M Ex (List D)} (hK : X.K = g.K) (hg : Gl X "zip") (hm : X.mg "zip" = none) (h : FA g X W [e1, e2] a)
    (hs : starEach [e1, e2] X.env = (false, eval e1 X.env) :: starEach [e2] X.env := by rfl) (hpl : (backTo pos (starEach [e2] X.env)).any (·.1) = false := by rfl) :
    FI g X W (.Tuple elts n tpos) (.Call (.Name "zip" p) [e1, e2] [] pos) (iterZ a) := by
  refine ⟨PI.imp (RZ.pi_zipA hg hm h.pa hs hpl) fun σ H R q => tI.go (R1 := RelDs g) h.mono (fun _ => mono_see _) q fun Z d v F st H1 sim r ⟨p, hp, q⟩ => ?_, fun ρ => mono_bind (h.mono ρ) fun _ => mono_see _⟩
  unfold zipSrc at hp
  split at hp
  · rename_i xs ys
    split at hp
    · rename_i hl
      cases hp
      obtain ⟨v, vs, rfl, r1, r2⟩ := r.cons_inv
      obtain ⟨v2, vs2, rfl, r3, r4⟩ := r2.cons_inv
      rw [r4.nil_inv]
      unfold RelD at r1 r3
      obtain ⟨a, vs, rfl, hv, hr⟩ := r1
      obtain ⟨b, us, rfl, hu, hr2⟩ := r3
      rw [hK]
      refine ⟨a, b, vs, us, rfl, .inr ⟨sqT_mono sim.same hv, sqT_mono sim.same hu, q F H1 _ (Same.refl _) sim fun Z' _ => walkD_pair (G := fun H vs us => SqT g.K H a vs ∧ SqT g.K H b us) hl (fun Z' F' H' st' e s p => ?_) ?_ ?_ ?_ Z'⟩⟩
      · exact ⟨vs, us, ⟨sqT_mono s.same (sqT_mono e hv), sqT_mono s.same (sqT_mono e hu)⟩, hr.mono e, hr2.mono e⟩
      · exact fun H vs us i hG h1 h2 => ⟨vs, us, vs[i], us[i], hG.1, hG.2, by simp [h1], by simp [h2]⟩
      · exact fun H vs us hG => ⟨vs, us, hG.1, hG.2, by omega⟩
      · rintro H vs us i v H' ⟨g1, g2⟩ h1 h2 ⟨T, x, y, e1, e2, e3, e4, e5⟩
        exact ⟨T, x, y, e1, e2, e3, e4 vs g1, e5 us g2⟩
    · exact nomatch hp
  · rename_i d e _
    obtain ⟨xs, h1, hp⟩ := Option.bind_eq_some_iff.mp hp
    obtain ⟨ys, h2, hp⟩ := Option.bind_eq_some_iff.mp hp
    split at hp
    · rename_i hl
      cases hp
      obtain ⟨v, vs, rfl, r1, r2⟩ := r.cons_inv
      obtain ⟨v2, vs2, rfl, r3, r4⟩ := r2.cons_inv
      rw [r4.nil_inv]
      obtain ⟨a, rfl, hs1⟩ := sim.lstOf r1 h1
      obtain ⟨b, rfl, hs2⟩ := sim.lstOf r3 h2
      obtain ⟨vs, hv, _⟩ := hs1 Z F H1 st (Same.refl _) sim (srcP_now h1)
      obtain ⟨us, hu, _⟩ := hs2 Z F H1 st (Same.refl _) sim (srcP_now h2)
      rw [hK]
      refine ⟨a, b, vs, us, rfl, .inl ⟨hv, hu, q F H1 _ (Same.refl _) sim fun Z' _ => walkD_pair (G := fun H vs us => SqL g.K H a vs ∧ SqL g.K H b us) hl (fun Z' F' H' st' e s p => ?_) ?_ ?_ ?_ Z'⟩⟩
      · obtain ⟨vs, h3, h4⟩ := hs1 Z' F' H' st' e s p.1
        obtain ⟨us, h5, h6⟩ := hs2 Z' F' H' st' e s p.2
        exact ⟨vs, us, ⟨h3, h5⟩, h4, h6⟩
      · exact fun H vs us i hG h1 h2 => ⟨vs, us, vs[i], us[i], hG.1, hG.2, by simp [h1], by simp [h2]⟩
      · exact fun H vs us hG => ⟨vs, us, hG.1, hG.2, by omega⟩
      · rintro H vs us i v H' ⟨g1, g2⟩ h1 h2 ⟨T, x, y, e1, e2, e3, e4, e5⟩
        exact ⟨T, x, y, e1, e2, e3, e4 vs g1, e5 us g2⟩
    · exact nomatch hp
  · exact nomatch hp
/-! ### comprehensions -/
def wipeD (ρ : Env) : List Nat → Env
  | [] => ρ
  | v :: vs => (wipeD ρ vs).set v none
theorem REnv.wipe (h : REnv g F σ ρ) : ∀ vs : List Nat, REnv g F (wipe σ vs) (wipeD ρ vs)
  | [] => h
  | v :: vs => (REnv.wipe h vs).none
/-- nothing may be raised -/
def noX (m : M Ex α) : M Ex α := fun s Q _ => m s Q fun _ _ => False
theorem mono_noX {m : M Ex α} (h : Mono m) : Mono (noX m) := fun s _ _ _ _ hq _ => h s _ _ _ _ hq fun _ _ x => x
def lcLoop (P : S → Prop) (f : D → Env → Option Env) (tt : Env → M Ex Bool) (te : Env → M Ex D) (ρ : Env) : List D → List D → M Ex (List D)
  | [], acc => fun s Q _ => P s ∧ Q acc s
  | d :: ds, acc => fun s Q E => P s ∧ ∃ ρ1, f d ρ = some ρ1 ∧ bindM (noX (tt ρ1)) (fun b => if b = true then bindM (noX (te ρ1)) fun y => lcLoop P f tt te ρ ds (acc ++ [y]) else lcLoop P f tt te ρ ds acc) s Q E
theorem mono_lcLoop {P : S → Prop} {f : D → Env → Option Env} {tt : Env → M Ex Bool} {te : Env → M Ex D} (ht : ∀ ρ, Mono (tt ρ)) (he : ∀ ρ, Mono (te ρ)) : ∀ (ds acc : List D), Mono (lcLoop P f tt te ρ ds acc)
  | [], acc => fun s _ _ _ _ hq _ ⟨p, q⟩ => ⟨p, hq _ _ q⟩
  | d :: ds, acc => fun s _ _ _ _ hq hx ⟨p, ρ1, e, q⟩ => ⟨p, ρ1, e, mono_bind (mono_noX (ht ρ1)) (fun b => mono_ite (mono_bind (mono_noX (he ρ1)) fun y => mono_lcLoop ht he ds _) (mono_lcLoop ht he ds _)) _ _ _ _ _ hq hx q⟩
def lcE (mi : Env → M Ex Src) (own : List Nat) (f : D → Env → Option Env) (tt : Env → M Ex Bool) (te : Env → M Ex D) (out : List D → M Ex D) : Env → M Ex D := fun ρ => bindM (mi ρ) fun p => bindM (lcLoop p.P f tt te (wipeD ρ own) p.items []) out
/-- what becomes of the new list: it never changes; it stays a place -/
def outF : List D → M Ex D := fun ds => pureM (.lst ds)
def outN : List D → M Ex D := fun ds => newM (.lst ds)
structure Out (g : G) (out : List D → M Ex D) : Prop where
  mono : ∀ ds, Mono (out ds)
  ok : ∀ {Z F H : Hp} {st : S} {a : Addr} {ds : List D} {vs : List V} {Q : VK} {E : Ex → S → Prop}, Z a = none → Sim g (upd Z a (.lst vs)) st F H → RelDs g F ds vs → out ds st (Res g (RelD g) Z F Q) E → Q (.ref a) H
theorem out_F : Out g outF := ⟨fun _ => mono_pure _, fun {Z F H st a ds vs Q E} z sim r q => by
  have nF := (sim.pin a _ upd_same).1
  have s := same_upd (o := .lst vs) nF
  exact q _ _ _ s (sim.pinKeep z) (by unfold RelD; exact ⟨a, vs, rfl, upd_same, r.mono s⟩)⟩
theorem out_N : Out g outN := ⟨fun _ => mono_new, fun {Z F H st a ds vs Q E} z sim r q => by
  obtain ⟨nF, nS, h⟩ := sim.pin a _ upd_same
  exact q a nS _ F H (Same.refl _) (sim.pinPut z ⟨vs, h, r⟩) relD_ref⟩
theorem wipe_get : ∀ (vs : List Nat) (σ : St) (j : Nat), (wipe σ vs)[j]? = if j ∈ vs then σ[j]?.map (fun _ => none) else σ[j]?
  | [], σ, j => by simp [wipe]
  | v :: vs, σ, j => by
    show ((wipe σ vs).set v none)[j]? = _
    by_cases q : v = j
    · subst q
      rw [List.getElem?_set_self', wipe_get vs σ v, if_pos List.mem_cons_self]
      by_cases h : v ∈ vs
      · rw [if_pos h]; cases σ[v]? <;> rfl
      · rw [if_neg h]; cases σ[v]? <;> rfl
    · rw [List.getElem?_set_ne q, wipe_get vs σ j]
      have : (j ∈ v :: vs) ↔ j ∈ vs := by simp [Ne.symm q]
      simp only [this]
theorem wipe_set {σ : St} {i : Nat} {o : Option V} {vs : List Nat} (h : i ∈ vs) : wipe (σ.set i o) vs = wipe σ vs := by
  refine List.ext_getElem? fun j => ?_
  rw [wipe_get, wipe_get]
  by_cases q : i = j
  · subst q
    rw [if_pos h, if_pos h, List.getElem?_set_self']
    cases σ[i]? <;> rfl
  · rw [List.getElem?_set_ne q]
theorem wipe_wipe {σ : St} {vs : List Nat} : wipe (wipe σ vs) vs = wipe σ vs := by
  refine List.ext_getElem? fun j => ?_
  rw [wipe_get, wipe_get]
  by_cases h : j ∈ vs
  · rw [if_pos h, if_pos h]
    cases σ[j]? <;> rfl
  · rw [if_neg h]
/-- targets of a comprehension -/
def tGw (g : G) (own : List Nat) (f : D → Env → Option Env) : TG := fun v σ H Q => ∃ Z F st d ρ ρ', Sim g Z st F H ∧ REnv g F σ ρ ∧ RelD g F d v ∧ f d ρ = some ρ' ∧ ∀ σ', REnv g F σ' ρ' → wipe σ' own = wipe σ own → Q σ' H
def tGsw (g : G) (own : List Nat) (f : List D → Env → Option Env) : TGs := fun v σ H Q => ∃ Z F st d ρ ρ', Sim g Z st F H ∧ REnv g F σ ρ ∧ RelDs g F d v ∧ f d ρ = some ρ' ∧ ∀ σ', REnv g F σ' ρ' → wipe σ' own = wipe σ own → Q σ' H
def FGw (g : G) (X : Cx) (own : List Nat) (tg : Expr) (f : D → Env → Option Env) : Prop := PG X tg (tGw g own f)
def FGsw (g : G) (X : Cx) (own : List Nat) (tg : List Expr) (f : List D → Env → Option Env) : Prop := PGs X tg (tGsw g own f)
variable {own : List Nat}
theorem fgw_name {i : Nat} {x : Str} (hN : X.N.Nodup) (hi : X.N[i]? = some x) (hx : Loc X.env.scope x) (ho : i ∈ own) (hf : X.fn x = true ∨ X.env.scope.names.lookup x = some .local := by first | exact .inl rfl | exact .inr rfl | assumption) : FGw g X own (.Name x pos) (toName i) :=
  PG.imp (pg_name hN hi hx hf) fun v σ H Q ⟨Z, F, st, d, ρ, ρ', sim, env, r, e, q⟩ => by
    cases (Option.some.inj e)
    exact q _ (env.set r) (wipe_set ho)
theorem fgsw_nil : FGsw g X own [] toNil := PGs.imp pgs_nil fun v σ H Q ⟨Z, F, st, d, ρ, ρ', sim, env, r, e, q⟩ => by
  cases d with
  | nil =>
    cases (Option.some.inj e)
    exact ⟨r.nil_inv, q _ env rfl⟩
  | cons _ _ => cases e
theorem fgsw_cons {es : List Expr} {f : D → Env → Option Env} {k : List D → Env → Option Env} (h1 : FGw g X own e f) (h2 : FGsw g X own es k) (hs : (assignEach (e :: es) X.env).map (·.2) = assign e X.env :: (assignEach es X.env).map (·.2) := by rfl) : FGsw g X own (e :: es) (toCons f k) :=
  PGs.imp (pgs_cons h1 h2 hs) fun vs σ H Q ⟨Z, F, st, ds, ρ, ρ', sim, env, r, eq, q⟩ => by
    cases ds with
    | nil => cases eq
    | cons d ds =>
      obtain ⟨v, vs', rfl, r1, r2⟩ := r.cons_inv
      cases hf : f d ρ with
      | none =>
        have : (match f d ρ with | some ρ' => k ds ρ' | none => none) = some ρ' := eq
        rw [hf] at this; cases this
      | some ρ1 =>
        have e2 : (match f d ρ with | some ρ' => k ds ρ' | none => none) = some ρ' := eq
        rw [hf] at e2
        exact ⟨v, vs', rfl, Z, F, st, d, ρ, ρ1, sim, env, r1, hf, fun σ1 env1 w1 => ⟨Z, F, st, ds, ρ1, ρ', sim, env1, r2, e2, fun σ2 env2 w2 => q σ2 env2 (w2.trans w1)⟩⟩
theorem fgw_tup {es : List Expr} {k : Nat} {n : Nat} {f : List D → Env → Option Env} (hK : X.K = g.K) (hc : X.calm = true) (h : FGsw g X own es f) (hn : (assignEach es X.env).length = n := by rfl) (hst : (assignEach es X.env).findIdx? (·.1) = none := by rfl) : FGw g X own (.Tuple es k pos) (toTup n f) :=
  PG.imp (pg_tup hc h hn hst) fun v σ H Q ⟨Z, F, st, d, ρ, ρ', sim, env, r, eq, q⟩ => by
    cases d with
    | tup ds =>
      unfold RelD at r
      obtain ⟨a, vs, rfl, hs, hr⟩ := r
      have e2 : (if ds.length = n then f ds ρ else none) = some ρ' := eq
      by_cases hl : ds.length = n
      · rw [if_pos hl] at e2
        rw [hK]
        exact ⟨a, vs, rfl, sqT_mono sim.same hs, hr.len.trans hl, Z, F, st, ds, ρ, ρ', sim, env, hr, e2, q⟩
      · rw [if_neg hl] at e2; cases e2
    | _ => cases eq
abbrev WN : WX := fun _ _ _ _ => False
structure FTs (g : G) (X : Cx) (W : WX) (ifs : List Expr) (m : Env → M Ex Bool) : Prop where
  pt : PTs X ifs (tX g RB W m)
  mono : ∀ ρ, Mono (m ρ)
def yesT : Env → M Ex Bool := fun _ => pureM true
theorem fts_nil : FTs g X W [] yesT := ⟨⟨fun pins s σ H Q I ⟨Z, F, st, ρ, E, N, q⟩ => pts_nil.run pins s σ H Q I (tX.done (R := RB) N rfl q)⟩, fun _ => mono_pure _⟩
theorem fts_one {m : Env → M Ex Bool} (h : FT g X W e m) : FTs g X W [e] m := ⟨pts_one h.pt, h.mono⟩
theorem takes_blk {s : Shared} {H : Hp} {scope : Scope} {env : PySem.Env} {fp : List Addr} : Takes (X.blk s H scope env fp) WN := fun u s' ⟨a, B, sI, pins, σ, H, cls, d, e, I, nb, up, sky, na, os, ag, w⟩ => w.elim
theorem lc_go {iter : Expr} {mi : Env → M Ex Src} {f : D → Env → Option Env} {tt : Env → M Ex Bool} {te : Env → M Ex D} {out : List D → M Ex D} {Q : VK} (hi : ∀ ρ, Mono (mi ρ)) (ht : ∀ ρ, Mono (tt ρ)) (he : ∀ ρ, Mono (te ρ)) (ho : Out g out) (h : tX g (RelD g) W (lcE mi own f tt te out) σ H Q) :
    tLc (tI g W mi) (tGw g own f) (tX g RB WN tt) (tX g (RelD g) WN te) own σ H Q := by
  obtain ⟨Z, F, st, ρ, E, N, q⟩ := h
  refine ⟨Z, F, st, ρ, E, N, hi ρ _ _ _ _ _ (fun p st2 q2 F2 H2 J e2 sim2 w Dd nD => ?_) (fun _ _ x => x) q⟩
  have zD := sim2.zfree nD
  have env2 := (N.env.mono e2).wipe own
  refine ⟨fun i m H => m = p.items.length - i ∧ i ≤ p.items.length ∧ ∃ F3 st3 acc accV, Same F2 F3 ∧ Sim g (upd Z Dd (.lst accV)) st3 F3 H ∧ RelDs g F3 acc accV ∧ acc.length ≤ i ∧ bindM (lcLoop p.P f tt te (wipeD ρ own) (p.items.drop i) acc) out st3 (Res g (RelD g) Z F3 Q) (fun x s => E x ρ s),
    ⟨_, rfl, Nat.zero_le _, F2, st2, [], [], Same.refl _, sim2.pinNew nD, .nil, Nat.le_refl _, mono_bind (mono_lcLoop ht he _ _) ho.mono _ _ _ _ _ (fun _ _ z => z.mono e2) (fun _ _ x => x) q2⟩, ?_⟩
  rintro i m H1 ⟨rfl, hi1, F3, st3, acc, accV, e3, sim3, r3, hl3, q3⟩
  have w1 := w (upd Z Dd (.lst accV)) fun a o h => by rw [upd_ne (by rintro rfl; rw [zD] at h; cases h)]; exact h
  by_cases hlt : i < p.items.length
  · rw [List.drop_eq_getElem_cons hlt] at q3
    obtain ⟨pp, ρ1, hf, q3⟩ := q3
    refine .inr ⟨w1.goes F3 H1 st3 i e3 sim3 pp hlt, fun H => ∃ F3 st3 acc accV, Same F2 F3 ∧ Sim g (upd Z Dd (.lst accV)) st3 F3 H ∧ RelDs g F3 acc accV ∧ acc.length ≤ i + 1 ∧ bindM (lcLoop p.P f tt te (wipeD ρ own) (p.items.drop (i + 1)) acc) out st3 (Res g (RelD g) Z F3 Q) (fun x s => E x ρ s), fun H' h => ⟨p.items.length - (i + 1), by omega, rfl, hlt, h⟩, fun x H' y => ?_⟩
    obtain ⟨F4, d, e4, sim4, hd, r⟩ := w1.yields F3 H1 st3 i x H' e3 sim3 pp hlt y
    have hd' : p.items[i] = d := by rw [List.getElem?_eq_getElem hlt] at hd; exact Option.some.inj hd
    rw [hd'] at hf
    refine ⟨_, F4, st3, d, _, ρ1, sim4, env2.mono (e3.trans e4), r, hf, fun σ2 env3 hw => ⟨hw.trans wipe_wipe, ?_⟩⟩
    have lk : ∀ F, Lk g WN (upd Z Dd (.lst accV)) F (fun _ _ _ => False) := fun F x ρ st F' H' u d σ _ _ _ _ h => h.elim
    refine ⟨_, F4, st3, ρ1, fun _ _ _ => False, ⟨sim4, env3, lk _⟩, ht ρ1 _ _ _ _ _ (fun b s k c F5 H5 e5 sim5 rb => ?_) (fun _ _ x => x) q3⟩
    cases rb
    cases b with
    | true =>
      refine iteT ⟨_, F5, s, ρ1, fun _ _ _ => False, ⟨sim5, env3.mono e5, lk _⟩, he ρ1 _ _ _ _ _ (fun dy s k v F6 H6 e6 sim6 ry => ?_) (fun _ _ x => x) k⟩
      have e36 := (e4.trans e5).trans e6
      refine ⟨accV, (sim6.pin Dd _ upd_same).2.2, by rw [r3.len]; have := w1.len; omega, F6, s, acc ++ [dy], accV ++ [v], e3.trans e36, sim6.pinSet, (r3.mono e36).append (.one ry), by simp; omega, ?_⟩
      exact mono_bind (mono_lcLoop ht he _ _) ho.mono _ _ _ _ _ (fun _ _ z => z.mono e36) (fun _ _ x => x) k
    | false =>
      have e35 := e4.trans e5
      refine iteF ⟨F5, s, acc, accV, e3.trans e35, sim5, r3.mono e35, by omega, ?_⟩
      exact mono_bind (mono_lcLoop ht he _ _) ho.mono _ _ _ _ _ (fun _ _ z => z.mono e35) (fun _ _ x => x) k
  · have ei : i = p.items.length := by omega
    subst ei
    rw [List.drop_length] at q3
    obtain ⟨pp, q3⟩ := q3
    exact .inl ⟨w1.stops F3 H1 st3 e3 sim3 pp, ho.ok zD sim3 r3 q3⟩
theorem mono_lcE {mi : Env → M Ex Src} {f : D → Env → Option Env} {tt : Env → M Ex Bool} {te : Env → M Ex D} {out : List D → M Ex D} (hi : ∀ ρ, Mono (mi ρ)) (ht : ∀ ρ, Mono (tt ρ)) (he : ∀ ρ, Mono (te ρ)) (ho : ∀ ds, Mono (out ds)) (ρ : Env) : Mono (lcE mi own f tt te out ρ) :=
  mono_bind (hi ρ) fun p => mono_bind (mono_lcLoop ht he _ _) ho
theorem fe_lc {elt iter : Expr} {ifs : List Expr} {scope : Scope} {ow : List (Str × Nat)} {mi : Env → M Ex Src} {f : D → Env → Option Env} {tt : Env → M Ex Bool} {te : Env → M Ex D} {out : List D → M Ex D} (ho : Out g out) (hc : X.calm = true) (hN : X.N.Nodup) (hi : FI g X W tg iter mi) (ok : BlkOk X.N X.env.scope scope ow)
    (hg : ∀ (s : Shared) (H : Hp) (C : Addr) (cl : List (Str × Addr)) (fp : List Addr), FGw g (X.blk s H scope (compEnvC scope cl C X.env) fp) (ow.map (·.2)) tg f) (ht : ∀ (s : Shared) (H : Hp) (C : Addr) (cl : List (Str × Addr)) (fp : List Addr), FTs g (X.blk s H scope (compEnvC scope cl C X.env) fp) WN ifs tt)
    (he : ∀ (s : Shared) (H : Hp) (C : Addr) (cl : List (Str × Addr)) (fp : List Addr), FE g (X.blk s H scope (compEnvC scope cl C X.env) fp) WN elt te) (ht0 : ∀ ρ, Mono (tt ρ)) (he0 : ∀ ρ, Mono (te ρ)) (hs : ∀ x, foldedSetIterable iter X.env x = pure x := by intro _; rfl) :
    FE g X W (.ListComp elt [⟨tg, iter, ifs, 0⟩] scope pos) (lcE mi (ow.map (·.2)) f tt te out) :=
  ⟨PE.imp (pe_lc hc hN hi.pi ok hg (fun s H C cl fp => (ht s H C cl fp).pt) (fun s H C cl fp => (he s H C cl fp).pe) hs) fun σ H Q q => lc_go (iter := iter) hi.mono ht0 he0 ho q, mono_lcE hi.mono ht0 he0 ho.mono⟩
/-- name = [..] on one line -/
theorem fs_setLc {i : Nat} {y : Str} {py spos : Pos} {elt iter : Expr} {ifs : List Expr} {scope : Scope} {ow : List (Str × Nat)} {mi : Env → M Ex Src} {f : D → Env → Option Env} {tt : Env → M Ex Bool} {te : Env → M Ex D} {out : List D → M Ex D} (ho : Out g out) (hc : X.calm = true) (hN : X.N.Nodup) (hy : X.N[i]? = some y) (hyl : X.env.scope.names.lookup y = some .local)
    (hsw : swapsWith (.ListComp elt [⟨tg, iter, ifs, 0⟩] scope pos) (some (.Name y py)) spos.line X.env = pure true) (hi : FI g X W tg iter mi) (ok : BlkOk X.N X.env.scope scope ow)
    (hg : ∀ (s : Shared) (H : Hp) (C : Addr) (cl : List (Str × Addr)) (fp : List Addr), FGw g (X.blk s H scope (compEnvC scope cl C X.env) fp) (ow.map (·.2)) tg f) (ht : ∀ (s : Shared) (H : Hp) (C : Addr) (cl : List (Str × Addr)) (fp : List Addr), FTs g (X.blk s H scope (compEnvC scope cl C X.env) fp) WN ifs tt)
    (he : ∀ (s : Shared) (H : Hp) (C : Addr) (cl : List (Str × Addr)) (fp : List Addr), FE g (X.blk s H scope (compEnvC scope cl C X.env) fp) WN elt te) (ht0 : ∀ ρ, Mono (tt ρ)) (he0 : ∀ ρ, Mono (te ρ)) (hs : ∀ x, foldedSetIterable iter X.env x = pure x := by intro _; rfl) :
    FS g X W (.Assign [.Name y py] (.ListComp elt [⟨tg, iter, ifs, 0⟩] scope pos) spos) (setS i (lcE mi (ow.map (·.2)) f tt te out)) := by
  refine ⟨PS.imp (ps_setLc hc hN hy hyl hsw hi.pi ok hg (fun s H C cl fp => (ht s H C cl fp).pt) (fun s H C cl fp => (he s H C cl fp).pe) hs) fun D σ H ⟨Z, F, st, ρ, E, N, q⟩ => ?_, fun ρ => mono_bind (mono_up (mono_lcE hi.mono ht0 he0 ho.mono ρ)) fun _ => mono_pure _⟩
  exact lc_go (iter := iter) hi.mono ht0 he0 ho (tS.go (R1 := RelD g) N (mono_lcE hi.mono ht0 he0 ho.mono ρ) (fun _ => mono_pure _) q fun d v F st H1 e N r q => q _ F H1 (Same.refl _) N.sim (N.env.set r))
end DL

/-! ### builtins, methods of lists and texts, dicts -/
namespace DL
open PySem L2
variable {g : G} {Z F F' H H' : Hp} {W : WX} {σ : St} {ρ : Env} {st : S} {α β γ δ : Type} {X : Cx} {e e1 e2 e3 tg : Expr} {pos : Pos}
variable {x : Str} {p : Pos} {es : List Expr} {a : Env → M Ex (List D)}
abbrev PN := List D → S → Option D
def rN (g : G) (f : PN) : List V → Hp → VK → Prop := fun vs H Q => ∃ Z F st ds d, Sim g Z st F H ∧ RelDs g F ds vs ∧ f ds st = some d ∧ Res g (RelD g) Z F Q d st
theorem CallR.imp {f : Value} {r r' : List V → Hp → VK → Prop} (h : CallR X f r) (k : ∀ xs H Q, r' xs H Q → r xs H Q) : CallR X f r' := fun pins s σ H xs us Q I rx q => h pins s σ H xs us Q I rx (k _ _ _ q)
def prim (f : PN) (a : Env → M Ex (List D)) : Env → M Ex D := fun ρ => bindM (a ρ) fun ds => seeM (f ds)
theorem mono_prim {f : PN} (h : ∀ ρ, Mono (a ρ)) (ρ : Env) : Mono (prim f a ρ) := mono_bind (h ρ) fun _ => mono_see _
theorem tX.prim {f : PN} {Q : VK} (ha : ∀ ρ, Mono (a ρ)) (h : tX g (RelD g) W (DL.prim f a) σ H Q) : tX g (RelDs g) W a σ H fun vs H1 => rN g f vs H1 Q := by
  obtain ⟨Z, F, st, ρ, E, N, q⟩ := h
  refine tX.go (R1 := RelDs g) N (ha ρ) (fun _ => mono_see _) q fun ds vs F st H1 e N r q => ?_
  obtain ⟨d, ed, q⟩ := q
  exact ⟨Z, F, st, ds, d, N.sim, r, ed, q⟩
theorem fe_callB {id : String} {f : PN} (hc : CallR X (.builtin id) (rN g f)) (hg : Gl X x) (hm : X.mg x = none) (hv : bootBuiltins x = some (.builtin id)) (ha : FA g X W (e :: es) a) (hn : x ≠ "__name__" := by decide) (hdb : (x == ("__debug__" : Str)) = false := by decide)
    (he : starEach (e :: es) X.env = (false, eval e X.env) :: starEach es X.env := by rfl) (hpl : (backTo pos (starEach es X.env)).any (·.1) = false := by rfl) : FE g X W (.Call (.Name x p) (e :: es) [] pos) (prim f a) :=
  ⟨PE.imp (pe_callB hc hg hm hv ha.pa hn hdb he hpl) fun _ _ _ q => tX.prim ha.mono q, mono_prim ha.mono⟩
theorem fe_callTy {T : String} {f : PN} (hc : CallR X (.type T) (rN g f)) (hg : Gl X x) (hm : X.mg x = none) (hv : bootBuiltins x = some (.type T)) (ha : FA g X W (e :: es) a) (hn : x ≠ "__name__" := by decide) (hdb : (x == ("__debug__" : Str)) = false := by decide)
    (he : starEach (e :: es) X.env = (false, eval e X.env) :: starEach es X.env := by rfl) (hpl : (backTo pos (starEach es X.env)).any (·.1) = false := by rfl) : FE g X W (.Call (.Name x p) (e :: es) [] pos) (prim f a) :=
  ⟨PE.imp (pe_callTy hc hg hm hv ha.pa hn hdb he hpl) fun _ _ _ q => tX.prim ha.mono q, mono_prim ha.mono⟩
/-! len -/
def lenD : PN := fun ds st => (one ds).bind fun d => match d with
  | .str z => if z.length ≤ sizeLine then some (.int z.length) else none
  | d => (seqD st d).map fun xs => .int xs.length
theorem cr_len (hK : X.K = g.K) : CallR X (.builtin "len") (rN g lenD) := CallR.imp call_len fun vs H Q ⟨Z, F, st, ds, d, sim, r, ed, q⟩ => by
  obtain ⟨d1, h0, e⟩ := Option.bind_eq_some_iff.mp ed
  clear ed
  cases one_inv h0
  obtain ⟨v, vs, rfl, r1, r2⟩ := r.cons_inv
  rw [r2.nil_inv, hK]
  split at e
  · rename_i z
    split at e
    · rename_i hl
      cases e
      unfold RelD at r1
      subst r1
      exact ⟨_, z.length, rfl, ⟨hl, rfl⟩, q _ F H (Same.refl _) sim relD_int⟩
    · cases e
  · obtain ⟨xs, h1, rfl⟩ := Option.map_eq_some_iff.mp e
    obtain ⟨a, us, rfl, hs, hr⟩ := sim.seq r1 h1
    refine ⟨_, us.length, rfl, ?_, by rw [hr.len]; exact q _ F H (Same.refl _) sim relD_int⟩
    rcases hs with hs | hs
    · exact .inl ⟨us, hs, rfl⟩
    · exact .inr ⟨us, hs, rfl⟩
/-! int, list, tuple -/
def intF : PN := fun ds _ => (one ds).bind fun d => match d with
  | .int i => some (.int i)
  | .bl b => some (.int (if b then 1 else 0))
  | _ => none
theorem cr_int : CallR X (.type "int") (rN g intF) := CallR.imp call_int1 fun vs H Q ⟨Z, F, st, ds, d, sim, r, ed, q⟩ => by
  obtain ⟨d1, h0, e⟩ := Option.bind_eq_some_iff.mp ed
  clear ed
  cases one_inv h0
  obtain ⟨v, vs, rfl, r1, r2⟩ := r.cons_inv
  rw [r2.nil_inv]
  split at e
  · cases e
    unfold RelD at r1
    exact .inl ⟨_, by rw [r1], q _ F H (Same.refl _) sim relD_int⟩
  · cases e
    unfold RelD at r1
    exact .inr ⟨_, by rw [r1], q _ F H (Same.refl _) sim relD_int⟩
  · cases e
def listF : PN := fun ds st => (one ds).bind fun d => (seqD st d).map .lst
theorem cr_list (hK : X.K = g.K) : CallR X (.type "list") (rN g listF) := CallR.imp call_list_of fun vs H Q ⟨Z, F, st, ds, d, sim, r, ed, q⟩ => by
  obtain ⟨d1, h0, e⟩ := Option.bind_eq_some_iff.mp ed
  clear ed
  obtain ⟨xs, h1, rfl⟩ := Option.map_eq_some_iff.mp e
  cases one_inv h0
  obtain ⟨v, vs, rfl, r1, r2⟩ := r.cons_inv
  rw [r2.nil_inv, hK]
  obtain ⟨a, us, rfl, hs, hr⟩ := sim.seq r1 h1
  refine ⟨a, us, rfl, hs, fun l nl => ?_⟩
  have s := same_upd (o := .lst us) (sim.free nl).1
  exact q _ _ _ s (sim.new nl) (by unfold RelD; exact ⟨l, us, rfl, upd_same, hr.mono s⟩)
def tupleF : PN := fun ds st => (one ds).bind fun d => (seqD st d).map .tup
theorem cr_tuple (hK : X.K = g.K) : CallR X (.type "tuple") (rN g tupleF) := CallR.imp call_tuple_of fun vs H Q ⟨Z, F, st, ds, d, sim, r, ed, q⟩ => by
  obtain ⟨d1, h0, e⟩ := Option.bind_eq_some_iff.mp ed
  clear ed
  obtain ⟨xs, h1, rfl⟩ := Option.map_eq_some_iff.mp e
  cases one_inv h0
  obtain ⟨v, vs, rfl, r1, r2⟩ := r.cons_inv
  rw [r2.nil_inv, hK]
  have new : ∀ a us, RelDs g F xs us → SqL g.K H a us → ∃ p ys, [V.ref a] = [.ref p] ∧ ((SqL g.K H p ys ∧ ∀ l, H l = none → Q (.ref l) (upd H l (.tup ys))) ∨ (SqT g.K H p ys ∧ Q (.ref p) H)) := fun a us hr hs =>
    ⟨a, us, rfl, .inl ⟨hs, fun l nl => by
      have s := same_upd (o := .tup us) (sim.free nl).1
      exact q _ _ _ s (sim.new nl) (by unfold RelD; exact ⟨l, us, rfl, SqT.of upd_same, hr.mono s⟩)⟩⟩
  cases d1 with
  | tup ds =>
    cases (Option.some.inj h1)
    unfold RelD at r1
    obtain ⟨a, us, rfl, h2, h3⟩ := r1
    exact ⟨a, us, rfl, .inr ⟨sqT_mono sim.same h2, q _ F H (Same.refl _) sim (by unfold RelD; exact ⟨a, us, rfl, h2, h3⟩)⟩⟩
  | lst ds =>
    cases (Option.some.inj h1)
    unfold RelD at r1
    obtain ⟨a, us, rfl, h2, h3⟩ := r1
    exact new a us h3 (SqL.of (sim.same _ _ h2))
  | ref a =>
    unfold RelD at r1
    subst r1
    obtain ⟨us, h2, h3⟩ := sim.lst h1
    exact new a us h3 (SqL.of h2)
  | _ => cases h1
/-! isinstance -/
def tyS (st : S) : D → Option String
  | .non => some "NoneType"
  | .bl _ => some "bool"
  | .int _ => some "int"
  | .str _ => some "str"
  | .tup _ => some "tuple"
  | .lst _ => some "list"
  | .dic _ _ => some "dict"
  | .ref a => match st.map a with
    | some (.lst _) => some "list"
    | some (.dic _) => some "dict"
    | _ => none
  | _ => none
theorem tyx_lst {a : Addr} {xs : List V} (h : SqL g.K H a xs) : TyX g.K H (.ref a) (.type "list") := by
  rcases h with (h | ⟨o, h⟩) | ⟨o, its, n, hk, hc, _⟩
  · exact .base (.lst h)
  · exact .base (.frz h)
  · exact .kList hk hc
theorem tyx_tup {a : Addr} {xs : List V} (h : SqT g.K H a xs) : TyX g.K H (.ref a) (.type "tuple") := by
  rcases h with (h | ⟨o, h⟩) | ⟨o, its, n, hk, hc, _⟩
  · exact .base (.tup h)
  · exact .fTuple h
  · exact .kTuple hk hc
theorem Sim.tyS {d : D} {v : V} {t : String} (s : Sim g Z st F H) (r : RelD g F d v) (h : DL.tyS st d = some t) : TyX g.K H v (.type t) := by
  cases d with
  | non => cases (Option.some.inj h); unfold RelD at r; subst r; exact .base .non
  | bl b => cases (Option.some.inj h); unfold RelD at r; subst r; exact .base (.bl b)
  | int b => cases (Option.some.inj h); unfold RelD at r; subst r; exact .base (.int b)
  | str b => cases (Option.some.inj h); unfold RelD at r; subst r; exact .base (.str b)
  | tup ds => cases (Option.some.inj h); unfold RelD at r; obtain ⟨a, vs, rfl, h1, _⟩ := r; exact tyx_tup (sqT_mono s.same h1)
  | lst ds => cases (Option.some.inj h); unfold RelD at r; obtain ⟨a, vs, rfl, h1, _⟩ := r; exact tyx_lst (SqL.of (s.same _ _ h1))
  | dic ks ds => cases (Option.some.inj h); unfold RelD at r; obtain ⟨a, vs, rfl, h1, _⟩ := r; exact .base (.dK (s.same _ _ h1))
  | ref a =>
    unfold RelD at r
    subst r
    unfold DL.tyS at h
    simp only at h
    cases m : st.map a with
    | none => rw [m] at h; cases h
    | some o =>
      rw [m] at h
      obtain ⟨_, ro⟩ := s.ob a o m
      cases o with
      | lst ds => cases (Option.some.inj h); obtain ⟨vs, e, _⟩ := ro; exact .base (.lst e)
      | dic ds => cases (Option.some.inj h); obtain ⟨vs, e, _⟩ := ro; exact .base (.dK e)
      | _ => cases h
  | _ => cases h
def subT (t m : String) : Bool := t == m || (t == "bool" && m == "int")
def baseTys : List String := ["NoneType", "bool", "int", "str", "tuple", "list", "dict"]
theorem kit_base : ∀ t ∈ baseTys, ∀ m ∈ ["bool", "int", "str", "tuple", "list", "dict"], kitB t m = some (subT t m) := by
  intro t ht m hm
  simp only [baseTys, List.mem_cons, List.not_mem_nil, or_false] at ht hm
  rcases ht with rfl | rfl | rfl | rfl | rfl | rfl | rfl <;> rcases hm with rfl | rfl | rfl | rfl | rfl | rfl <;> decide +kernel
theorem tyS_base {d : D} {t : String} (h : tyS st d = some t) : t ∈ baseTys := by
  unfold tyS at h
  split at h <;> first
    | (cases h; done)
    | (cases (Option.some.inj h); decide)
    | (split at h <;> first | (cases h; done) | (cases (Option.some.inj h); decide))
/-- own classes: cs, of which none is below another -/
structure OwnTy (g : G) (cs : List Str) : Prop where
  ins : ∀ c ∈ cs, ∀ {H : Hp} {a dx : Addr} {fs : List (Str × V)}, H a = some (.ins (g.cl c) dx fs) → TyX g.K H (.ref a) (.ref (g.cl c))
  kit : ∀ c ∈ cs, ∀ c' ∈ cs, PySem.W.kitOne g.K (.ref (g.cl c')) (.ref (g.cl c)) = some (decide (c' = c))
  base : ∀ c ∈ cs, ∀ t ∈ baseTys, PySem.W.kitOne g.K (.type t) (.ref (g.cl c)) = some false
  low : ∀ c ∈ cs, ∀ m ∈ ["bool", "int", "str", "tuple", "list", "dict"], PySem.W.kitOne g.K (.ref (g.cl c)) (.type m) = some false
def clsS (st : S) : D → Option Str
  | .ins c _ _ => some c
  | .ref a => match st.map a with
    | some (.ins c _) => some c
    | _ => none
  | _ => none
theorem Sim.clsS {d : D} {v : V} {c : Str} (s : Sim g Z st F H) (r : RelD g F d v) (h : DL.clsS st d = some c) : ∃ a dx fs, v = .ref a ∧ H a = some (.ins (g.cl c) dx fs) := by
  cases d with
  | ins c' ns vs => cases (Option.some.inj h); unfold RelD at r; obtain ⟨a, dx, fs, rfl, h1, _⟩ := r; exact ⟨a, dx, fs, rfl, s.same _ _ h1⟩
  | ref a =>
    unfold RelD at r
    subst r
    unfold DL.clsS at h
    simp only at h
    cases m : st.map a with
    | none => rw [m] at h; cases h
    | some o =>
      rw [m] at h
      obtain ⟨_, ro⟩ := s.ob a o m
      cases o with
      | ins c' ds => cases (Option.some.inj h); obtain ⟨dx, vs, e, _⟩ := ro; exact ⟨a, dx, vs, rfl, e⟩
      | _ => cases h
  | _ => cases h
/-- isinstance(x, c) -/
def isiB (cs : List Str) (st : S) (x c : D) : Option Bool := match c with
  | .ty m => if m ∈ ["bool", "int", "str", "tuple", "list", "dict"] then (match tyS st x with
      | some t => some (subT t m)
      | none => (clsS st x).bind fun c' => if c' ∈ cs then some false else none) else none
  | .cls c => if c ∈ cs then (match tyS st x with
      | some _ => some false
      | none => (clsS st x).bind fun c' => if c' ∈ cs then some (decide (c' = c)) else none) else none
  | _ => none
def isiD (cs : List Str) : PN := fun ds st => match ds with
  | [x, c] => (isiB cs st x c).map .bl
  | _ => none
theorem isiB_ok {cs : List Str} {x c : D} {b : Bool} {vx vc : V} (o : OwnTy g cs) (sim : Sim g Z st F H) (rx : RelD g F x vx) (rc : RelD g F c vc) (h : isiB cs st x c = some b) : ∃ t u, ClsV vc u ∧ TyX g.K H vx t ∧ PySem.W.kitOne g.K t u = some b := by
  unfold isiB at h
  split at h
  · rename_i m
    unfold RelD at rc
    subst rc
    split at h
    · rename_i hm
      split at h
      · rename_i t ht
        cases h
        exact ⟨_, _, .ty m, sim.tyS rx ht, kit_ty (kit_base t (tyS_base ht) m hm)⟩
      · obtain ⟨c', h1, h2⟩ := Option.bind_eq_some_iff.mp h
        split at h2
        · rename_i hc
          cases h2
          obtain ⟨a, dx, fs, rfl, ha⟩ := sim.clsS rx h1
          exact ⟨_, _, .ty m, o.ins c' hc ha, o.low c' hc m hm⟩
        · cases h2
    · cases h
  · rename_i c
    unfold RelD at rc
    subst rc
    split at h
    · rename_i hc
      split at h
      · rename_i t ht
        cases h
        exact ⟨_, _, .own _, sim.tyS rx ht, o.base c hc t (tyS_base ht)⟩
      · obtain ⟨c', h1, h2⟩ := Option.bind_eq_some_iff.mp h
        split at h2
        · rename_i hc'
          cases h2
          obtain ⟨a, dx, fs, rfl, ha⟩ := sim.clsS rx h1
          exact ⟨_, _, .own _, o.ins c' hc' ha, o.kit c hc c' hc'⟩
        · cases h2
    · cases h
  · cases h
theorem cr_isi {cs : List Str} (hK : X.K = g.K) (o : OwnTy g cs) : CallR X (.builtin "isinstance") (rN g (isiD cs)) := CallR.imp call_isi fun vs H Q ⟨Z, F, st, ds, d, sim, r, e, q⟩ => by
  unfold isiD at e
  split at e
  · rename_i x c
    obtain ⟨b, h1, rfl⟩ := Option.map_eq_some_iff.mp e
    obtain ⟨v, vs, rfl, r1, r2⟩ := r.cons_inv
    obtain ⟨v2, vs2, rfl, r3, r4⟩ := r2.cons_inv
    rw [r4.nil_inv, hK]
    obtain ⟨t, u, h2, h3, h4⟩ := isiB_ok o sim r1 r3 h1
    exact ⟨v, v2, t, u, b, rfl, h2, h3, h4, q _ F H (Same.refl _) sim relD_bl⟩
  · cases e
/-! ### list methods -/
def atL (x : D) (f : List D → Option (List D)) : M Ex D := fun s Q _ => ∃ a xs ys, x = .ref a ∧ s.map a = some (.lst xs) ∧ f xs = some ys ∧ Q .non (s.set a (.lst ys))
theorem mono_atL {x : D} {f : List D → Option (List D)} : Mono (atL x f) := fun _ _ _ _ _ hq _ ⟨a, xs, ys, h1, h2, h3, h⟩ => ⟨a, xs, ys, h1, h2, h3, hq _ _ h⟩
/-- x is a place with a list -/
def isL (x : D) (st : S) : Option Unit := match x with
  | .ref a => (obL (st.map a)).map fun _ => ()
  | _ => none
theorem isL_inv {x : D} {v : V} (sim : Sim g Z st F H) (r : RelD g F x v) (h : isL x st = some ()) : ∃ a vs, v = .ref a ∧ H a = some (.lst vs) := by
  cases x with
  | ref a =>
    obtain ⟨xs, h1, _⟩ := Option.map_eq_some_iff.mp h
    unfold RelD at r
    obtain ⟨vs, h2, _⟩ := sim.lst h1
    exact ⟨a, vs, r, h2⟩
  | _ => cases h
def atLf (f : D → S → List D → Option (List D)) (x y : D) : M Ex D := fun s Q E => atL x (f y s) s Q E
theorem mono_atLf {f : D → S → List D → Option (List D)} {x y : D} : Mono (atLf f x y) := fun _ _ _ _ _ hq he h => mono_atL _ _ _ _ _ hq he h
def listM (f : D → S → List D → Option (List D)) (o v : Env → M Ex D) : Env → M Ex D := fun ρ => bindM (o ρ) fun x => bindM (seeM (isL x)) fun _ => bindM (v ρ) fun y => atLf f x y
theorem mono_listM {f : D → S → List D → Option (List D)} {o v : Env → M Ex D} (ho : ∀ ρ, Mono (o ρ)) (hv : ∀ ρ, Mono (v ρ)) (ρ : Env) : Mono (listM f o v ρ) := mono_bind (ho ρ) fun _ => mono_bind (mono_see _) fun _ => mono_bind (hv ρ) fun _ => mono_atLf
theorem tX.listM {f : D → S → List D → Option (List D)} {o v : Env → M Ex D} {Q : VK} {r : V → List V → Hp → VK → Prop} (hK : X.K = g.K) (ho : ∀ ρ, Mono (o ρ)) (hv : ∀ ρ, Mono (v ρ)) (h : tX g (RelD g) W (DL.listM f o v) σ H Q)
    (next : ∀ {Z F H : Hp} {st : S} {a : Addr} {xs ys : List D} {vs : List V} {y : D} {vy : V}, Sim g Z st F H → H a = some (.lst vs) → st.map a = some (.lst xs) → RelDs g F xs vs → RelD g F y vy → f y st xs = some ys → (∀ us : List V, RelDs g F ys us → Q .non (upd H a (.lst us))) → r (.ref a) [vy] H Q) :
    tBM X.K "list" r (tX g (RelD g) W o) (tCons (tX g (RelD g) W v) tNil) σ H Q := by
  obtain ⟨Z, F, st, ρ, E, N, q⟩ := h
  have mk : ∀ x, Mono (bindM (v ρ) fun y => atLf f x y) := fun x => mono_bind (hv ρ) fun _ => mono_atLf
  refine tX.go (R1 := RelD g) N (ho ρ) (fun x => mono_bind (mono_see _) fun _ => mk x) q fun dx x F st H1 e1 N rx q => ?_
  obtain ⟨_, hi, q⟩ := q
  obtain ⟨a, vs, rfl, ha⟩ := isL_inv N.sim rx hi
  refine ⟨.inl ⟨rfl, vs, SqL.of ha⟩, tX.go (R1 := RelD g) N (hv ρ) (fun _ => mono_atLf) q fun dy y F st H2 e2 N ry q => ?_⟩
  obtain ⟨a', xs, ys, rfl, hm, hf, q⟩ := q
  unfold RelD at rx
  cases rx
  obtain ⟨nF, us, hu, hr⟩ := N.sim.ob a _ hm
  exact next N.sim hu hm hr ry hf fun ws rw => q .non F _ (Same.refl _) (N.sim.put nF (.inr ⟨_, hm, by intro z; cases z⟩) ⟨ws, upd_same, rw⟩) relD_non
def appF : D → S → List D → Option (List D) := fun y _ xs => if xs.length < sizeLine then some (xs ++ [y]) else none
def extF : D → S → List D → Option (List D) := fun y st xs => (lstOf st y).bind fun ys => if xs.length + ys.length ≤ sizeLine then some (xs ++ ys) else none
theorem fe_append {apos : Pos} {o v : Env → M Ex D} (hK : X.K = g.K) (ho : FE g X W e1 o) (hv : FE g X W e2 v)
    (hbase : attributeBase e1 "append" X.env (eval e1 X.env) = eval e1 X.env := by rfl)
    (hfew : ((backTo pos (starEach [e2] X.env)).all (fun x => !x.1) && (backToKw pos (keywordEach [] X.env)).all (fun x => x.1.isSome)
      && decide ([e2].length + ([] : List Keyword).length + (if ([] : List Keyword).isEmpty then 0 else 1) < 30)) = true := by rfl)
    (hline : (apos.endLine == pos.line) = true := by rfl) (hs : starEach [e2] X.env = (false, eval e2 X.env) :: starEach [] X.env := by rfl) (hplain : (backTo pos (starEach [] X.env)).any (·.1) = false := by rfl) :
    FE g X W (.Call (.Attribute e1 "append" apos) [e2] [] pos) (listM appF o v) := by
  refine ⟨PE.imp (pe_bm PySem.F.plainAttrs_list PySem.F.slot_list_append PySem.F.type_list_append mt_append ho.pe (pa_cons hv.pe pa_nil hs) hbase hfew hline hs hplain) fun σ H Q q => tX.listM hK ho.mono hv.mono q ?_, mono_listM ho.mono hv.mono⟩
  intro Z F H st a xs ys vs y vy sim ha hm hr ry hf q
  unfold appF at hf
  split at hf
  · rename_i hl
    cases hf
    exact ⟨a, vs, vy, rfl, rfl, ha, by rw [hr.len]; exact hl, q _ (hr.append (.one ry))⟩
  · cases hf
theorem fe_extend {apos : Pos} {o v : Env → M Ex D} (hK : X.K = g.K) (ho : FE g X W e1 o) (hv : FE g X W e2 v)
    (hbase : attributeBase e1 "extend" X.env (eval e1 X.env) = eval e1 X.env := by rfl)
    (hfew : ((backTo pos (starEach [e2] X.env)).all (fun x => !x.1) && (backToKw pos (keywordEach [] X.env)).all (fun x => x.1.isSome)
      && decide ([e2].length + ([] : List Keyword).length + (if ([] : List Keyword).isEmpty then 0 else 1) < 30)) = true := by rfl)
    (hline : (apos.endLine == pos.line) = true := by rfl) (hs : starEach [e2] X.env = (false, eval e2 X.env) :: starEach [] X.env := by rfl) (hplain : (backTo pos (starEach [] X.env)).any (·.1) = false := by rfl) :
    FE g X W (.Call (.Attribute e1 "extend" apos) [e2] [] pos) (listM extF o v) := by
  refine ⟨PE.imp (pe_bm PySem.F.plainAttrs_list PySem.F.slot_list_extend PySem.F.type_list_extend mt_extend ho.pe (pa_cons hv.pe pa_nil hs) hbase hfew hline hs hplain) fun σ H Q q => tX.listM hK ho.mono hv.mono q ?_, mono_listM ho.mono hv.mono⟩
  intro Z F H st a xs ys vs y vy sim ha hm hr ry hf q
  obtain ⟨zs, h1, hf⟩ := Option.bind_eq_some_iff.mp hf
  split at hf
  · rename_i hl
    cases hf
    have : ∃ b us, vy = .ref b ∧ H b = some (.lst us) ∧ RelDs g F zs us := by
      cases y with
      | lst ds =>
        cases (Option.some.inj h1)
        unfold RelD at ry
        obtain ⟨b, us, rfl, h2, h3⟩ := ry
        exact ⟨b, us, rfl, sim.same _ _ h2, h3⟩
      | ref b =>
        unfold RelD at ry
        subst ry
        obtain ⟨us, h2, h3⟩ := sim.lst h1
        exact ⟨b, us, rfl, h2, h3⟩
      | _ => cases h1
    obtain ⟨b, us, rfl, hb, hr2⟩ := this
    exact ⟨a, b, vs, us, rfl, rfl, ha, hb, by rw [hr.len, hr2.len]; exact hl, q _ (hr.append hr2)⟩
  · cases hf
end DL

/-! ### texts, dicts -/
namespace DL
open PySem L2
variable {g : G} {Z F F' H H' : Hp} {W : WX} {σ : St} {ρ : Env} {st : S} {α β γ δ : Type} {X : Cx} {e e1 e2 e3 tg : Expr} {pos : Pos}
variable {x : Str} {p : Pos} {es : List Expr} {a : Env → M Ex (List D)}
def isStr : D → Option Unit
  | .str _ => some ()
  | _ => none
/-- s.m(y) -/
def m1 (f : P2) (o v : Env → M Ex D) : Env → M Ex D := fun ρ => bindM (o ρ) fun x => bindM (seeM fun _ => isStr x) fun _ => bindM (v ρ) fun y => seeM (f x y)
theorem MtR.imp {id : String} {r r' : V → List V → Hp → VK → Prop} (h : MtR X id r) (k : ∀ x xs H Q, r' x xs H Q → r x xs H Q) : MtR X id r' := fun pins s σ H x xs v us Q I rx rs q => h pins s σ H x xs v us Q I rx rs (k _ _ _ _ q)
def rM1 (g : G) (f : P2) : V → List V → Hp → VK → Prop := fun x xs H Q => ∃ y, xs = [y] ∧ r2 g f x y H Q
theorem fe_m1 {id : String} {name : Str} {apos : Pos} {f : P2} {o v : Env → M Ex D} (slot : Slot "str" name id) (ty : typeOf (.builtin id) = pure (.type "method_descriptor")) (rule : MtR X id (rM1 g f)) (ho : FE g X W e1 o) (hv : FE g X W e2 v)
    (hs : starEach [e2] X.env = [(false, eval e2 X.env)] := by rfl) (hbase : attributeBase e1 name X.env (eval e1 X.env) = eval e1 X.env := by rfl) (hline : (apos.endLine == pos.line) = true := by rfl) :
    FE g X W (.Call (.Attribute e1 name apos) [e2] [] pos) (m1 f o v) := by
  refine ⟨PE.imp (pe_m1 slot ty rule ho.pe hv.pe hs hbase hline) fun σ H Q ⟨Z, F, st, ρ, E, N, q⟩ => ?_, fun ρ => mono_bind (ho.mono ρ) fun _ => mono_bind (mono_see _) fun _ => mono_bind (hv.mono ρ) fun _ => mono_see _⟩
  refine tX.go (R1 := RelD g) N (ho.mono ρ) (fun _ => mono_bind (mono_see _) fun _ => mono_bind (hv.mono ρ) fun _ => mono_see _) q fun dx x F st H1 e1 N rx q => ?_
  obtain ⟨_, hi, q⟩ := q
  refine ⟨?_, tX.go (R1 := RelD g) N (hv.mono ρ) (fun _ => mono_see _) q fun dy y F st H2 e2 N ry q => ?_⟩
  · cases dx with
    | str z => unfold RelD at rx; exact ⟨z, rx⟩
    | _ => cases hi
  · obtain ⟨d, ed, q⟩ := q
    exact ⟨y, rfl, Z, F, st, dx, dy, d, N.sim, rx.mono e2, ry, ed, q⟩
def str2 (f : Str → Str → Option D) : P2 := fun x y _ => match x, y with
  | .str a, .str b => f a b
  | _, _ => none
theorem str2_inv {f : Str → Str → Option D} {x y d : D} (h : str2 f x y st = some d) : ∃ a b, x = .str a ∧ y = .str b ∧ f a b = some d := by
  unfold str2 at h
  split at h
  · exact ⟨_, _, rfl, rfl, h⟩
  · cases h
def startsD : P2 := str2 fun a b => some (.bl (Txt.startswith a b))
def endsD : P2 := str2 fun a b => some (.bl (Txt.endswith a b))
def partD : P2 := str2 fun a b => if (b.length == 0) = false ∧ a.length ≤ sizeLine then some (.tup [.str (Txt.partition a b).1, .str (Txt.partition a b).2.1, .str (Txt.partition a b).2.2]) else none
def splitD : P2 := str2 fun a b => if (b.length == 0) = false ∧ a.length + 2 ≤ sizeLine then some (.lst ((Txt.split a b).map .str)) else none
theorem mr_starts : MtR X "str.startswith" (rM1 g startsD) := MtR.imp mt_startswith fun x xs H Q ⟨y, e, Z, F, st, dx, dy, d, sim, rx, ry, h, q⟩ => by
  obtain ⟨a, b, rfl, rfl, h⟩ := str2_inv h
  cases h
  unfold RelD at rx ry
  exact ⟨a, b, rx, by rw [e, ry], q _ F H (Same.refl _) sim relD_bl⟩
theorem mr_ends : MtR X "str.endswith" (rM1 g endsD) := MtR.imp mt_endswith fun x xs H Q ⟨y, e, Z, F, st, dx, dy, d, sim, rx, ry, h, q⟩ => by
  obtain ⟨a, b, rfl, rfl, h⟩ := str2_inv h
  cases h
  unfold RelD at rx ry
  exact ⟨a, b, rx, by rw [e, ry], q _ F H (Same.refl _) sim relD_bl⟩
theorem rel_strs (F : Hp) : ∀ ys : List Str, RelDs g F (ys.map .str) (ys.map V.str)
  | [] => .nil
  | y :: ys => .cons relD_str (rel_strs F ys)
theorem mr_part : MtR X "str.partition" (rM1 g partD) := MtR.imp mt_partition fun x xs H Q ⟨y, e, Z, F, st, dx, dy, d, sim, rx, ry, h, q⟩ => by
  obtain ⟨a, b, rfl, rfl, hh⟩ := str2_inv h
  clear h
  split at hh
  · rename_i hc
    cases hh
    unfold RelD at rx ry
    refine ⟨a, b, rx, by rw [e, ry], hc.1, hc.2, fun p np => ?_⟩
    have s := same_upd (o := .tup [.str (Txt.partition a b).1, .str (Txt.partition a b).2.1, .str (Txt.partition a b).2.2]) (sim.free np).1
    exact q _ _ _ s (sim.new np) (by unfold RelD; exact ⟨p, _, rfl, SqT.of upd_same, .cons relD_str (.cons relD_str (.one relD_str))⟩)
  · cases hh
theorem mr_split : MtR X "str.split" (rM1 g splitD) := MtR.imp mt_split fun x xs H Q ⟨y, e, Z, F, st, dx, dy, d, sim, rx, ry, h, q⟩ => by
  obtain ⟨a, b, rfl, rfl, hh⟩ := str2_inv h
  clear h
  split at hh
  · rename_i hc
    cases hh
    unfold RelD at rx ry
    refine ⟨a, b, rx, by rw [e, ry], hc.1, hc.2, fun p np => ?_⟩
    have s := same_upd (o := .lst ((Txt.split a b).map V.str)) (sim.free np).1
    exact q _ _ _ s (sim.new np) (by unfold RelD; exact ⟨p, _, rfl, upd_same, rel_strs _ _⟩)
  · cases hh
def strsOf : List D → Option (List Str)
  | [] => some []
  | .str z :: ds => (strsOf ds).map fun r => z :: r
  | _ :: _ => none
theorem strsOf_rel : ∀ {ds : List D} {vs : List V} {ys : List Str}, strsOf ds = some ys → RelDs g F ds vs → vs = ys.map V.str
  | [], _, _, e, r => by cases e; exact r.nil_inv
  | d :: ds, _, _, e, r => by
    obtain ⟨v, vs, rfl, r1, r2⟩ := r.cons_inv
    cases d with
    | str z =>
      obtain ⟨ys, h1, rfl⟩ := Option.map_eq_some_iff.mp e
      unfold RelD at r1
      rw [r1, strsOf_rel h1 r2]; rfl
    | _ => cases e
def joinD : P2 := fun x y st => match x with
  | .str a => (seqD st y).bind fun ds => (strsOf ds).bind fun ys => if (ys.map (·.length)).sum + ys.length * a.length ≤ 16777216 then some (.str (Txt.join a ys)) else none
  | _ => none
theorem mr_join (hK : X.K = g.K) : MtR X "str.join" (rM1 g joinD) := MtR.imp mt_join fun x xs H Q ⟨y, e, Z, F, st, dx, dy, d, sim, rx, ry, h, q⟩ => by
  cases dx with
  | str a =>
    obtain ⟨ds, h1, h⟩ := Option.bind_eq_some_iff.mp (show ((seqD st dy).bind fun ds => (strsOf ds).bind fun ys => if (ys.map (·.length)).sum + ys.length * a.length ≤ 16777216 then some (.str (Txt.join a ys)) else none) = some d from h)
    obtain ⟨ys, h2, h⟩ := Option.bind_eq_some_iff.mp h
    split at h
    · rename_i hl
      cases h
      obtain ⟨b, vs, rfl, hs, hr⟩ := sim.seq ry h1
      obtain rfl := strsOf_rel h2 hr
      unfold RelD at rx
      rw [hK]
      exact ⟨a, b, ys, rx, e, hs, hl, q _ F H (Same.refl _) sim relD_str⟩
    · cases h
  | _ => cases h
/-! ### dicts -/
def keyD : D → Option Key
  | .int i => some (.inl i)
  | .str z => some (.inr z)
  | _ => none
theorem keyD_rel {d : D} {v : V} {k : Key} (h : keyD d = some k) (r : RelD g F d v) : v = kV k := by
  cases d with
  | int i => cases h; unfold RelD at r; exact r
  | str z => cases h; unfold RelD at r; exact r
  | _ => cases h
def obK : Option Ob → Option (List (Key × D))
  | some (.dic kvs) => some kvs
  | _ => none
def dicOf (st : S) : D → Option (List (Key × D))
  | .dic ks vs => some (ks.zip vs)
  | .ref a => obK (st.map a)
  | _ => none
def valD (kvs : List (Key × D)) (k : Key) : Option D := (kvs.find? fun kv => decide (kv.1 = k)).map (·.2)
theorem valD_rel : ∀ {kds : List (Key × D)} {kvs : List (Key × V)} {k : Key}, kvs.map (·.1) = kds.map (·.1) → RelDs g F (kds.map (·.2)) (kvs.map (·.2)) → (∃ d v, valD kds k = some d ∧ valV kvs k = some v ∧ RelD g F d v) ∨ (valD kds k = none ∧ valV kvs k = none)
  | [], [], _, _, _ => .inr ⟨rfl, rfl⟩
  | [], _ :: _, _, h, _ => by cases h
  | _ :: _, [], _, h, _ => by cases h
  | (k1, d) :: kds, (k2, v) :: kvs, k, h, r => by
    injection h with h1 h2
    have h1 : k2 = k1 := h1
    subst h1
    obtain ⟨w, ws, e, r1, r2⟩ := r.cons_inv
    cases e
    unfold valD valV
    rw [List.find?_cons, List.find?_cons]
    by_cases q : k2 = k
    · rw [decide_eq_true q]
      exact .inl ⟨d, v, rfl, rfl, r1⟩
    · rw [decide_eq_false q]
      exact valD_rel h2 r2
theorem Sim.dicOf {d : D} {v : V} {kds : List (Key × D)} (s : Sim g Z st F H) (r : RelD g F d v) (h : DL.dicOf st d = some kds) : ∃ a kvs, v = .ref a ∧ H a = some (.dK kvs) ∧ kvs.map (·.1) = kds.map (·.1) ∧ RelDs g F (kds.map (·.2)) (kvs.map (·.2)) := by
  cases d with
  | dic ks vs =>
    cases (Option.some.inj h)
    unfold RelD at r
    obtain ⟨a, kvs, rfl, h1, h2, h3⟩ := r
    have hl : ks.length = vs.length := by rw [← h2, ← h3.len]; simp
    refine ⟨a, kvs, rfl, s.same _ _ h1, ?_, ?_⟩
    · rw [List.map_fst_zip (by omega)]; exact h2
    · rw [List.map_snd_zip (by omega)]; exact h3
  | ref a =>
    unfold RelD at r
    subst r
    replace h : obK (st.map a) = some kds := h
    cases m : st.map a with
    | none => rw [m] at h; cases h
    | some o =>
      rw [m] at h
      obtain ⟨_, ro⟩ := s.ob a o m
      cases o with
      | dic ds => cases (Option.some.inj h); obtain ⟨kvs, e, h1, h2⟩ := ro; exact ⟨a, kvs, rfl, e, h1, h2⟩
      | _ => cases h
  | _ => cases h
def dgetD : P2 := fun x y st => (dicOf st x).bind fun kvs => (keyD y).bind fun k => valD kvs k
theorem fe_dget {a b : Env → M Ex D} (hu : X.A.units + 1 < cLine) (ha : FE g X W e1 a) (hb : FE g X W e2 b) (hs : NoSl e2) : FE g X W (.Subscript e1 e2 pos) (op2 dgetD a b) := by
  refine ⟨PE.imp (pe_dget hu ha.pe hb.pe hs) fun σ H Q ⟨Z, F, st, ρ, E, N, q⟩ => ?_, mono_op2 ha.mono hb.mono⟩
  refine tX.go N (ha.mono ρ) (fun _ => mono_bind (hb.mono ρ) fun _ => mono_see _) q fun dx x F st H1 e N rx q => ?_
  refine tX.go (R1 := RelD g) N (hb.mono ρ) (fun _ => mono_see _) q fun dy y F2 st H2 e2 N ry q => ?_
  obtain ⟨d, ed, q⟩ := q
  obtain ⟨kds, h1, ed⟩ := Option.bind_eq_some_iff.mp ed
  obtain ⟨k, h2, h3⟩ := Option.bind_eq_some_iff.mp ed
  obtain ⟨a, kvs, rfl, h4, h5, h6⟩ := N.sim.dicOf (rx.mono e2) h1
  cases keyD_rel h2 ry
  rcases valD_rel (k := k) h5 h6 with ⟨d', v, h7, h8, h9⟩ | ⟨h7, _⟩
  · rw [h3] at h7; cases h7
    exact ⟨a, v, rfl, by rw [← h8]; exact DGet.k h4, tX.done N h9 q⟩
  · rw [h3] at h7; cases h7
def dinD : P2 := fun y x st => (dicOf st x).bind fun kvs => (keyD y).map fun k => .bl (valD kvs k).isSome
def dnotinD : P2 := fun y x st => (dicOf st x).bind fun kvs => (keyD y).map fun k => .bl (!(valD kvs k).isSome)
theorem din_go {a b : Env → M Ex D} {Q : VK} (ha : ∀ ρ, Mono (a ρ)) (hb : ∀ ρ, Mono (b ρ)) (h : tX g (RelD g) W (op2 dinD a b) σ H Q) : tDIn (tX g (RelD g) W a) (tX g (RelD g) W b) σ H Q := by
  obtain ⟨Z, F, st, ρ, E, N, q⟩ := h
  refine tX.go N (ha ρ) (fun _ => mono_bind (hb ρ) fun _ => mono_see _) q fun dy y F st H1 e N ry q => ?_
  refine tX.go (R1 := RelD g) N (hb ρ) (fun _ => mono_see _) q fun dx x F2 st H2 e2 N rx q => ?_
  obtain ⟨d, ed, q⟩ := q
  obtain ⟨kds, h1, ed⟩ := Option.bind_eq_some_iff.mp ed
  obtain ⟨k, h2, rfl⟩ := Option.map_eq_some_iff.mp ed
  obtain ⟨a, kvs, rfl, h4, h5, h6⟩ := N.sim.dicOf rx h1
  cases keyD_rel h2 ry
  refine ⟨a, _, rfl, DGet.k h4, ?_⟩
  have e3 : (valV kvs k).isSome = (valD kds k).isSome := by
    rcases valD_rel (k := k) h5 h6 with ⟨d', v, h7, h8, h9⟩ | ⟨h7, h8⟩ <;> rw [h7, h8] <;> rfl
  rw [e3]
  exact tX.done N relD_bl q
theorem ft_din {a b : Env → M Ex D} (hu : X.A.units + 1 < cLine) (ha : FE g X W e1 a) (hb : FE g X W e2 b) (h1 : behindInMarks .In e2 = false := by rfl) : FT g X W (.Compare e1 [.In] [e2] pos) (liftT (op2 dinD a b)) :=
  ⟨PT.imp (pt_cmp (pc_din hu ha.pe hb.pe) h1) fun σ H Q q => din_go ha.mono hb.mono (tX.test (mono_op2 ha.mono hb.mono) q), mono_liftT (mono_op2 ha.mono hb.mono)⟩
/-- d[k] = v, at a place -/
def putKD (kvs : List (Key × D)) (k : Key) (v : D) : List (Key × D) :=
  if (kvs.any fun kv => decide (kv.1 = k)) = true then kvs.map (fun kv => if kv.1 = k then (kv.1, v) else kv) else kvs ++ [(k, v)]
theorem putKD_rel {kds : List (Key × D)} {kvs : List (Key × V)} {k : Key} {d : D} {v : V} (rv : RelD g F d v) (h : kvs.map (·.1) = kds.map (·.1)) (r : RelDs g F (kds.map (·.2)) (kvs.map (·.2))) :
    (putK kvs k v).map (·.1) = (putKD kds k d).map (·.1) ∧ RelDs g F ((putKD kds k d).map (·.2)) ((putK kvs k v).map (·.2)) := by
  have ha : (kvs.any fun kv => decide (kv.1 = k)) = (kds.any fun kv => decide (kv.1 = k)) := by
    have e1 : (kvs.any fun kv => decide (kv.1 = k)) = (kvs.map (·.1)).any fun q => decide (q = k) := by rw [List.any_map]; rfl
    have e2 : (kds.any fun kv => decide (kv.1 = k)) = (kds.map (·.1)).any fun q => decide (q = k) := by rw [List.any_map]; rfl
    rw [e1, e2, h]
  unfold putK putKD
  rw [ha]
  by_cases q : (kds.any fun kv => decide (kv.1 = k)) = true
  · rw [if_pos q, if_pos q]
    clear ha q
    induction kds generalizing kvs with
    | nil =>
      cases kvs with
      | nil => exact ⟨rfl, .nil⟩
      | cons _ _ => cases h
    | cons kd kds ih =>
      cases kvs with
      | nil => cases h
      | cons kv kvs =>
        obtain ⟨k1, d1⟩ := kd
        obtain ⟨k2, v1⟩ := kv
        injection h with h1 h2
        have h1 : k2 = k1 := h1
        subst h1
        obtain ⟨w, ws, e, r1, r2⟩ := r.cons_inv
        cases e
        obtain ⟨i1, i2⟩ := ih h2 r2
        by_cases q : k2 = k
        · simp only [List.map_cons, q, if_true] at i1 i2 ⊢
          exact ⟨by rw [i1], .cons rv i2⟩
        · simp only [List.map_cons, q, if_false] at i1 i2 ⊢
          exact ⟨by rw [i1], .cons r1 i2⟩
  · rw [if_neg q, if_neg q, List.map_append, List.map_append, List.map_append, List.map_append, h]
    exact ⟨rfl, r.append (.one rv)⟩
def setKey (x k v : D) : M (Ex × Env) Unit := fun s Q _ => ∃ a kvs key, x = .ref a ∧ s.map a = some (.dic kvs) ∧ keyD k = some key ∧ kvs.length < sizeLine ∧ Q () (s.set a (.dic (putKD kvs key v)))
theorem mono_setKey {x k v : D} : Mono (setKey x k v) := fun _ _ _ _ _ hq _ ⟨a, kvs, key, h1, h2, h3, h4, h⟩ => ⟨a, kvs, key, h1, h2, h3, h4, hq _ _ h⟩
def keyS (o i v : Env → M Ex D) : Env → MS := fun ρ => bindM (up ρ (v ρ)) fun y => bindM (up ρ (o ρ)) fun x => bindM (up ρ (i ρ)) fun k => bindM (setKey x k y) fun _ => pureM (.nx ρ)
theorem fs_dput {o i v : Env → M Ex D} {p' : Pos} (hu : X.A.units + 1 < cLine) (ho : FE g X W e1 o) (hi : FE g X W e2 i) (hv : FE g X W e3 v) (hs : swapsWith e3 (some (.Subscript e1 e2 p')) pos.line X.env = pure false := by rfl) :
    FS g X W (.Assign [.Subscript e1 e2 p'] e3 pos) (keyS o i v) := by
  have m3 : ∀ ρ y x k, Mono (bindM (setKey x k y) fun _ => (pureM (.nx ρ) : MS)) := fun ρ y x k => mono_bind mono_setKey fun _ => mono_pure _
  have m2 : ∀ ρ y x, Mono (bindM (up ρ (i ρ)) fun k => bindM (setKey x k y) fun _ => (pureM (.nx ρ) : MS)) := fun ρ y x => mono_bind (mono_up (hi.mono ρ)) (m3 ρ y x)
  have m1 : ∀ ρ y, Mono (bindM (up ρ (o ρ)) fun x => bindM (up ρ (i ρ)) fun k => bindM (setKey x k y) fun _ => (pureM (.nx ρ) : MS)) := fun ρ y => mono_bind (mono_up (ho.mono ρ)) (m2 ρ y)
  refine ⟨PS.imp (ps_dput hu ho.pe hi.pe hv.pe hs) fun D σ H ⟨Z, F, st, ρ, E, N, q⟩ => tS.go N (hv.mono ρ) (m1 ρ) q fun dy y F st H1 e N ry q => tS.go (R1 := RelD g) N (ho.mono ρ) (m2 ρ _) q fun dx x F2 st H2 e2 N rx q => tS.go (R1 := RelD g) N (hi.mono ρ) (m3 ρ _ _) q fun dk k F3 st H3 e3 N rk q => ?_,
    fun ρ => mono_bind (mono_up (hv.mono ρ)) (m1 ρ)⟩
  obtain ⟨a, kds, key, rfl, hm, hk, hl, q⟩ := q
  unfold RelD at rx
  subst rx
  obtain ⟨nF, kvs, h1, h2, h3⟩ := N.sim.ob a _ hm
  cases keyD_rel hk rk
  have hlen : kvs.length = kds.length := by have := congrArg List.length h2; simpa using this
  obtain ⟨h4, h5⟩ := putKD_rel (k := key) ((ry.mono e2).mono e3) h2 h3
  exact ⟨a, _, rfl, DPut.k h1 (by omega), q σ F3 _ (Same.refl _) (N.sim.put nF (.inr ⟨_, hm, by intro z; cases z⟩) ⟨_, upd_same, h4, h5⟩) N.env⟩
end DL

/-! ### mirrors are monotone: by instances -/
namespace DL
open PySem L2
class MB {ε α : Type} (m : Env → M ε α) : Prop where
  mono : ∀ ρ, Mono (m ρ)
class MD (m : List D → M Ex D) : Prop where
  mono : ∀ ds, Mono (m ds)
class MF (m : Fn) : Prop where
  mono : MonoF m
section
variable {ε α : Type} {a b c : Env → M Ex D} {t u : Env → M Ex Bool} {as ks : Env → M Ex (List D)} {s r : Env → MS} {m : Fn} {d : List D → M Ex D} {mi : Env → M Ex Src} {l h : Env → M Ex (Option Int)}
instance (i : Nat) : MB (var i) := ⟨mono_var i⟩
instance (x : D) : MB (cst x) := ⟨fun _ => mono_pure _⟩
instance [MB a] : MB (liftT a) := ⟨mono_liftT MB.mono⟩
instance [MB t] : MB (notT t) := ⟨fun ρ => mono_bind (MB.mono ρ) fun _ => mono_pure _⟩
instance [MB t] [MB u] : MB (andT t u) := ⟨mono_andT MB.mono MB.mono⟩
instance [MB t] [MB u] : MB (orT t u) := ⟨mono_orT MB.mono MB.mono⟩
instance [MB t] : MB (boolE t) := ⟨fun ρ => mono_bind (MB.mono ρ) fun _ => mono_pure _⟩
instance [MB a] [MB b] : MB (andE a b) := ⟨fun ρ => mono_bind (mono_liftT MB.mono ρ) fun _ => mono_ite (MB.mono ρ) (mono_pure _)⟩
instance [MB a] [MB b] : MB (orE a b) := ⟨fun ρ => mono_bind (mono_liftT MB.mono ρ) fun _ => mono_ite (mono_pure _) (MB.mono ρ)⟩
instance [MB a] : MB (notE a) := ⟨fun ρ => mono_bind (mono_liftT MB.mono ρ) fun _ => mono_pure _⟩
instance [MB t] [MB a] [MB b] : MB (iteE t a b) := ⟨fun ρ => mono_bind (MB.mono ρ) fun _ => mono_ite (MB.mono ρ) (MB.mono ρ)⟩
instance : MB argsN := ⟨fun _ => mono_pure _⟩
instance [MB a] [MB as] : MB (argsC a as) := ⟨fun ρ => mono_bind (MB.mono ρ) fun _ => mono_bind (MB.mono ρ) fun _ => mono_pure _⟩
instance (p : P2) [MB a] [MB b] : MB (op2 p a b) := ⟨mono_op2 MB.mono MB.mono⟩
instance (p q : P2) [MB a] [MB b] [MB c] : MB (chainE p q a b c) := ⟨mono_chainE MB.mono MB.mono MB.mono⟩
instance : MB partN := ⟨fun _ => mono_pure _⟩
instance [MB a] : MB (partS a) := ⟨fun ρ => mono_bind (MB.mono ρ) fun _ => mono_bind (mono_asI _) fun _ => mono_pure _⟩
instance [MB a] [MB l] [MB h] : MB (sliceE a l h) := ⟨fun ρ => mono_bind (MB.mono ρ) fun _ => mono_bind (MB.mono ρ) fun _ => mono_bind (MB.mono ρ) fun _ => mono_see _⟩
instance [MB as] : MB (tupE as) := ⟨mono_tupE MB.mono⟩
instance [MB as] : MB (lstE as) := ⟨fun ρ => mono_bind (MB.mono ρ) fun _ => mono_bind (mono_need _) fun _ => mono_pure _⟩
instance [MB as] : MB (lstN as) := ⟨fun ρ => mono_bind (MB.mono ρ) fun _ => mono_bind (mono_need _) fun _ => mono_new⟩
instance : MB dicN := ⟨fun _ => mono_new⟩
instance (k f : Str) [MB a] : MB (fldE k f a) := ⟨fun ρ => mono_bind (MB.mono ρ) fun _ => mono_see _⟩
instance (f : PN) [MB as] : MB (prim f as) := ⟨mono_prim MB.mono⟩
instance (f : P2) [MB a] [MB b] : MB (m1 f a b) := ⟨fun ρ => mono_bind (MB.mono ρ) fun _ => mono_bind (mono_see _) fun _ => mono_bind (MB.mono ρ) fun _ => mono_see _⟩
instance (f : D → S → List D → Option (List D)) [MB a] [MB b] : MB (listM f a b) := ⟨mono_listM MB.mono MB.mono⟩
instance [MF m] [MB as] [MB ks] : MB (callE m as ks) := ⟨mono_callE MF.mono MB.mono MB.mono⟩
instance (k n : Str) [MF m] [MB a] [MB as] [MB ks] : MB (methE k n m a as ks) := ⟨fun ρ => mono_bind (MB.mono ρ) fun x => mono_bind (mono_see _) fun _ => mono_callE (MonoF.cons MF.mono x) MB.mono MB.mono ρ⟩
instance (n : Nat) (dd : List D) [MD d] : MF (posF n dd d) := ⟨mono_posF MD.mono⟩
instance (n j : Nat) (gD : List D → List D → List D) [MD d] : MF (kwF n j gD d) := ⟨mono_kwF MD.mono⟩
instance (k : Str) [MF m] : MF (mkM k m stay) := ⟨mono_mkM MF.mono fun _ => mono_pure _⟩
instance (k : Str) [MF m] : MF (mkM k m freeze) := ⟨mono_mkM MF.mono mono_freeze⟩
instance (k : Str) [MF m] : MF (fun ds es => m (.cls k :: ds) es) := ⟨MonoF.cons MF.mono _⟩
instance [MB a] : MB (iterL a) := ⟨fun ρ => mono_bind (MB.mono ρ) fun _ => mono_see _⟩
instance [MB a] : MB (iterT a) := ⟨fun ρ => mono_bind (MB.mono ρ) fun _ => mono_see _⟩
instance [MB a] : MB (iterS a) := ⟨fun ρ => mono_bind (MB.mono ρ) fun _ => mono_see _⟩
instance (q : List D → Option Src) [MB as] : MB (iterR q as) := ⟨fun ρ => mono_bind (MB.mono ρ) fun _ => mono_see _⟩
instance [MB as] : MB (iterEL as) := ⟨fun ρ => mono_bind (MB.mono ρ) fun _ => mono_see _⟩
instance [MB as] : MB (iterET as) := ⟨fun ρ => mono_bind (MB.mono ρ) fun _ => mono_see _⟩
instance [MB as] : MB (iterZ as) := ⟨fun ρ => mono_bind (MB.mono ρ) fun _ => mono_see _⟩
instance : MB yesT := ⟨fun _ => mono_pure _⟩
instance (own : List Nat) (f : D → Env → Option Env) [MB mi] [MB t] [MB a] : MB (lcE mi own f t a outF) := ⟨mono_lcE MB.mono MB.mono MB.mono fun _ => mono_pure _⟩
instance (own : List Nat) (f : D → Env → Option Env) [MB mi] [MB t] [MB a] : MB (lcE mi own f t a outN) := ⟨mono_lcE MB.mono MB.mono MB.mono fun _ => mono_new⟩
instance [MB s] [MB r] : MB (seqS s r) := ⟨mono_seqS MB.mono MB.mono⟩
instance : MB nilS := ⟨fun _ => mono_pure _⟩
instance [MB a] : MB (retS a) := ⟨fun ρ => mono_bind (mono_up (MB.mono ρ)) fun _ => mono_pure _⟩
instance : MB retN := ⟨fun _ => mono_pure _⟩
instance [MB a] : MB (exprS a) := ⟨fun ρ => mono_bind (mono_up (MB.mono ρ)) fun _ => mono_pure _⟩
instance [MB t] [MB s] [MB r] : MB (ifS t s r) := ⟨fun ρ => mono_bind (mono_up (MB.mono ρ)) fun _ => mono_ite (MB.mono ρ) (MB.mono ρ)⟩
instance (i : Nat) [MB a] : MB (setS i a) := ⟨fun ρ => mono_bind (mono_up (MB.mono ρ)) fun _ => mono_pure _⟩
instance : MB bkS := ⟨fun _ => mono_pure _⟩
instance : MB ctS := ⟨fun _ => mono_pure _⟩
instance (f : D → Env → Option Env) [MB a] : MB (asgS f a) := ⟨fun ρ => mono_bind (mono_up (MB.mono ρ)) fun d => by
  show Mono ((match f d ρ with | some ρ' => pureM (.nx ρ') | none => failM) : MS)
  split
  · exact mono_pure _
  · exact mono_fail⟩
instance (f : D → Env → Option Env) [MB mi] [MB s] : MB (forS mi f s) := ⟨fun ρ => mono_bind (mono_up (MB.mono ρ)) fun p => mono_loopS MB.mono _ _⟩
instance [MB t] [MB s] : MB (whileS t s) := ⟨fun ρ s _ _ _ _ hq he ⟨n, q⟩ => ⟨n, mono_whileN MB.mono MB.mono n ρ _ _ _ _ _ hq he q⟩⟩
instance (i : Nat) : MB (freezeS i) := ⟨mono_freezeS i⟩
instance (k f : Str) [MB a] [MB b] : MB (fldS k f a b) := ⟨fun ρ => mono_bind (mono_up (MB.mono ρ)) fun _ => mono_bind (mono_up (MB.mono ρ)) fun _ => mono_bind mono_setFld fun _ => mono_pure _⟩
instance [MB a] [MB b] [MB c] : MB (keyS a b c) := ⟨fun ρ => mono_bind (mono_up (MB.mono ρ)) fun _ => mono_bind (mono_up (MB.mono ρ)) fun _ => mono_bind (mono_up (MB.mono ρ)) fun _ => mono_bind mono_setKey fun _ => mono_pure _⟩
instance (n : Nat) [MB s] : MD (defM n s) := ⟨mono_defM MB.mono⟩
instance (i : Nat) (x : D) [MB a] : MB (fun ρ => bindM (needM (ρ[i]? = some (some x))) fun _ => a ρ) := ⟨fun ρ => mono_bind (mono_need _) fun _ => MB.mono ρ⟩
end
/-! ### draws -/
def drawF : List D → M Ex D := fun ds s Q _ => ∃ b c l, ds = [.ref b, .int l] ∧ s.map b = some (.bag c) ∧ 0 < l ∧ l < 2 ^ 200 ∧ ∀ v : Int, 0 ≤ v → v < l → Q (.int v) s
instance : MD drawF := ⟨fun ds s _ _ _ _ hq _ ⟨b, c, l, h1, h2, h3, h4, h⟩ => ⟨b, c, l, h1, h2, h3, h4, fun v v0 v1 => hq _ _ (h v v0 v1)⟩⟩
def bagF : List D → M Ex D := fun ds s Q _ => ds = [.scr] ∧ ∀ b c, b ≠ c → s.map b = none → s.map c = none → Q (.ref b) ((s.set c .raw).set b (.bag c))
instance : MD bagF := ⟨fun ds s _ _ _ _ hq _ ⟨h1, h⟩ => ⟨h1, fun b c n n1 n2 => hq _ _ (h b c n n1 n2)⟩⟩
/-- the heap without the bag and its numbers -/
def hidB (H : Hp) (b c : Addr) : Hp := fun q => if q = b ∨ q = c then none else H q
theorem hidB_same {H : Hp} {b c : Addr} : Same (hidB H b c) H := fun q u h => by
  unfold hidB at h
  split at h
  · cases h
  · exact h
theorem hidB_b {H : Hp} {b c : Addr} : hidB H b c b = none := if_pos (.inl rfl)
theorem hidB_c {H : Hp} {b c : Addr} : hidB H b c c = none := if_pos (.inr rfl)
theorem hidB_at {H : Hp} {b c q : Addr} (h1 : q ≠ b) (h2 : q ≠ c) : hidB H b c q = H q := if_neg fun h => h.elim h1 h2
/-- behind a draw -/
theorem Sim.drawn {g : G} {Z F H H' : Hp} {st : S} {b c : Addr} (s : Sim g Z st F H) (hb : st.map b = some (.bag c)) (e : Same (hidB H b c) H')
    (h' : ∃ (ns : List Int) (seed cnt pos left big : Int), H' c = some (.lst (ns.map V.int)) ∧ H' b = some (.lst [.ref c, .int seed, .int cnt, .int pos, .int left, .int big]) ∧ 0 ≤ pos) : Sim g Z st F H' := by
  obtain ⟨nFb, mc, sd, cn, ps, lf, bg, hb1, p0⟩ := s.ob b _ hb
  obtain ⟨nFc, ns0, hc1⟩ := s.ob c _ mc
  obtain ⟨ns, sd', cn', ps', lf', bg', hc2, hb2, p0'⟩ := h'
  refine ⟨fun q u h => e q u ?_, fun a o m => ?_, fun a o m => ?_⟩
  · rw [hidB_at (by rintro rfl; rw [nFb] at h; cases h) (by rintro rfl; rw [nFc] at h; cases h)]; exact s.same _ _ h
  · by_cases h1 : a = b
    · subst h1; rw [hb] at m; cases m
      exact ⟨nFb, mc, sd', cn', ps', lf', bg', hb2, p0'⟩
    · by_cases h2 : a = c
      · subst h2; rw [mc] at m; cases m
        exact ⟨nFc, ns, hc2⟩
      · obtain ⟨f, r⟩ := s.ob a o m
        obtain ⟨u, hu⟩ := r.there
        exact ⟨f, r.move (Same.refl _) ((e a u (by rw [hidB_at h1 h2]; exact hu)).trans hu.symm) fun _ z => z⟩
  · obtain ⟨f, m1, h⟩ := s.pin a o m
    exact ⟨f, m1, e a o (by rw [hidB_at (by rintro rfl; rw [hb] at m1; cases m1) (by rintro rfl; rw [mc] at m1; cases m1)]; exact h)⟩
end DL

/-! ### what is never reached, docstrings, raises not taken; draws proved; the head's facts -/
namespace DL
open PySem L2
variable {g : G} {W : WX} {X : Cx} {pos : Pos}
def neverS : Env → MS := fun _ => failM
instance : MB neverS := ⟨fun _ => mono_fail⟩
theorem fs_never {s : Stmt} : FS g X W s neverS := ⟨⟨fun _ _ _ _ _ _ ⟨_, _, _, _, _, _, q⟩ => q.elim⟩, fun _ => mono_fail⟩
/-- a def that lets nothing out is one that may -/
theorem FnOk.up {P : Program} {w : World} {K : PySem.W.Frag} {mg : Str → Option Value} {base : Heap} {k : Nat} {f : Addr} {fd : FuncData} {ps : List Str} {sp : Sp} {CX : CXT} (Fo : FnOk P w K mg base CX0 k f fd ps sp) : FnOk P w K mg base CX k f fd ps sp :=
  ⟨Fo.len, fun A outer s H args us vs Q E hr e0 hb r h => codeAny_mono (Fo.run A outer s H args us vs Q E hr e0 hb r h) fun r s' hq => by
    cases r with
    | error e => exact hq.elim
    | ok fl => cases fl <;> exact hq⟩
/-- a def with defaults that lets nothing out -/
theorem okD0 {P : Program} {w : World} {K : PySem.W.Frag} {mg : Str → Option Value} {base : Heap} {x qual : Str} {params : Arguments} {body : List Stmt} {scope : Scope} {dvs : List V} {kws : List (Str × V)} {f : Addr} {fd : FuncData} {N ps : List Str} {k : Nat} {sp : Sp}
    (F : FunD K x qual params body scope dvs kws f fd) (S : FnScope N ps scope) (len : ∀ vs H Q E, sp vs H Q E → vs.length = ps.length)
    (hbody : ∀ (cdv : Value) (A : Around) (outer : List PySem.Env) (s : Shared) (H : Hp) (vs : List V) (Q : VK) (E : XK), Room k (A.deeper (PyProof.Rows.envOfC qual scope s.heap.objs.size f cdv)) → sp vs H Q E →
      ∃ t, PSs (cxOf CX0 P w K mg base N qual scope f cdv A outer s H E).nox body t ∧ t { nx := fun _ H' => Q .non H', rt := Q } (L2.start N vs) H) : FnOk P w K mg base CX0 (k + 1) f fd ps sp :=
  F.ok (CX := CX0) S len fun cdv A outer s H vs Q E hr h => let ⟨t, a, b⟩ := hbody cdv A outer s H vs Q E hr h; ⟨t, a.nox, b⟩
/-! ### the head's facts -/
structure Df where
  at_ : PySem.W.Frag → Addr
  name : Str
  qual : Str
  params : Arguments
  body : List Stmt
  scope : Scope
  dfl : List He.Dv := []
  kwd : List (Str × He.Dv) := []
def Df.fw (K : PySem.W.Frag) (d : Df) : He.FnW := match K.lookup (d.at_ K) with
  | some ⟨_, _, .func fd, _⟩ => some (fd.name, fd.qualname, fd.params, fd.body, fd.scope, fd.globals, fd.closure, fd.builtins)
  | _ => none
def Df.val (d : Df) : He.FnW := some (d.name, d.qual, d.params, .stmts d.body, d.scope, mainGlobals, [], builtinsNs)
def Df.dvs (K : PySem.W.Frag) (d : Df) : List V := d.dfl.map (He.Dv.v K)
def Df.kws (K : PySem.W.Frag) (d : Df) : List (Str × V) := d.kwd.map fun q => (q.1, q.2.v K)
def Df.ok (K : PySem.W.Frag) (d : Df) : Bool := PySem.W.keepIn K (.ref (d.at_ K)) && (match K.lookup (d.at_ K) with
  | some ⟨_, _, .func fd, _⟩ => PySem.W.codeIn K fd.code d.qual && (He.dflB K fd.defaults (d.dvs K) && He.kwdB K fd.kwdefaults (d.kws K))
  | _ => false)
theorem Df.funD {K : PySem.W.Frag} {d : Df} (e : d.fw K = d.val) (c : d.ok K = true) : ∃ fd, FunD K d.name d.qual d.params d.body d.scope (d.dvs K) (d.kws K) (d.at_ K) fd := by
  obtain ⟨kp, c2⟩ := He.ba c
  unfold Df.fw at e
  cases q : K.lookup (d.at_ K) with
  | none =>
    rw [q] at c2
    cases c2
  | some o =>
    obtain ⟨oc, od, dt, osl⟩ := o
    rw [q] at c2 e
    cases dt with
    | func fd =>
      obtain ⟨n1, n2, n3, n4, n5, n6, n7, n8, n9, n10, n11, n12, n13, n14, n15⟩ := fd
      have e2 : (some (n1, n2, n3, n4, n5, n6, n7, n15) : He.FnW) = some (d.name, d.qual, d.params, .stmts d.body, d.scope, mainGlobals, [], builtinsNs) := e
      simp only [Option.some.injEq, Prod.mk.injEq] at e2
      obtain ⟨h1, h2, h3, h4, h5, h6, h7, h8⟩ := e2
      subst h1 h2 h3 h4 h5 h6 h7 h8
      have c3 : (PySem.W.codeIn K n13 d.qual && (He.dflB K n8 (d.dvs K) && He.kwdB K n9 (d.kws K))) = true := c2
      obtain ⟨k1, k2⟩ := He.ba c3
      obtain ⟨k3, k4⟩ := He.ba k2
      exact ⟨_, ⟨oc, od, n8, n9, n10, n11, n12, n13, n14, osl, rfl, q, k1, He.dflB_ok k3, He.kwdB_ok k4⟩, kp⟩
    | _ => cases c2
abbrev AlN : Type := (Bool × List He.FnW) × List (Option (List (Option (Str × Int))))
def obsN (fb : List (PySem.W.Frag → Bool)) (fn : List Df) (ts : List He.Tab) (K : PySem.W.Frag) : AlN := (((fb.all fun f => f K) && fn.all fun d => d.ok K, fn.map fun d => d.fw K), ts.map fun t => He.dicW K (t.1 K))
def valN (fn : List Df) (ts : List He.Tab) (w : World) : AlN := ((true, fn.map Df.val), ts.map fun t => some (He.keysIn w.params t.2))
def SaysN (fb : List (PySem.W.Frag → Bool)) (fn : List Df) (ts : List He.Tab) (w : World) (K : PySem.W.Frag) : Prop := obsN fb fn ts K = valN fn ts w
def obsNG (n : Nat) (fb : List (PySem.W.Frag → Bool)) (fn : List Df) (ts : List He.Tab) (g : Addr → Option Obj) : AlN := obsN fb fn ts (He.frG g (He.asD g n ++ [cStatics]))
def hookN (n : Nat) (fb : List (PySem.W.Frag → Bool)) (fn : List Df) (ts : List He.Tab) : PySem.W.Hook where
  α := AlN
  obs := fun s => obsNG n fb fn ts s.heap.get?
  val := fun w => valN fn ts w
  says := fun w h => ∃ K : PySem.W.Frag, K.In h ∧ SaysN fb fn ts w K
  of := fun _ _ e => ⟨_, He.frG_in, e⟩
  keeps := fun _ _ _ ⟨K, hK, c⟩ k => ⟨K, PySem.W.Frag.In.keeps hK k, c⟩
theorem obsNG_eq {n : Nat} {fb : List (PySem.W.Frag → Bool)} {fn : List Df} {ts : List He.Tab} {g : Addr → Option Obj} {s : Shared} (h : ∀ a, g a = s.heap.get? a) : obsNG n fb fn ts g = (hookN n fb fn ts).obs s := by
  have e : g = s.heap.get? := funext h
  rw [e] <;> rfl
section
variable {fb : List (PySem.W.Frag → Bool)} {fn : List Df} {ts : List He.Tab} {w : World} {K : PySem.W.Frag}
theorem SaysN.all (c : SaysN fb fn ts w K) : (fb.all fun f => f K) = true := (He.ba (show ((fb.all fun f => f K) && fn.all fun d => d.ok K) = true from congrArg (fun z : AlN => z.1.1) c)).1
theorem SaysN.fact (c : SaysN fb fn ts w K) (i : Nat) {f : PySem.W.Frag → Bool} (h : fb[i]? = some f := by rfl) : f K = true := by
  have c1 := (He.ba (show ((fb.all fun f => f K) && fn.all fun d => d.ok K) = true from congrArg (fun z : AlN => z.1.1) c)).1
  exact List.all_eq_true.mp c1 f (List.mem_of_getElem? h)
theorem SaysN.def_ (c : SaysN fb fn ts w K) (i : Nat) {d : Df} (h : fn[i]? = some d := by rfl) : ∃ fd, FunD K d.name d.qual d.params d.body d.scope (d.dvs K) (d.kws K) (d.at_ K) fd := by
  have c2 := (He.ba (show ((fb.all fun f => f K) && fn.all fun d => d.ok K) = true from congrArg (fun z : AlN => z.1.1) c)).2
  have e : fn.map (fun d => d.fw K) = fn.map Df.val := congrArg (fun z : AlN => z.1.2) c
  have e2 : (fn.map fun d => d.fw K)[i]? = (fn.map Df.val)[i]? := by rw [e]
  rw [List.getElem?_map, List.getElem?_map, h] at e2
  exact Df.funD (Option.some.inj e2) (List.all_eq_true.mp c2 d (List.mem_of_getElem? h))
theorem SaysN.tab (c : SaysN fb fn ts w K) (i : Nat) {t : He.Tab} (h : ts[i]? = some t := by rfl) : ∃ es n, KDict K w (t.1 K) es n := by
  have e : ts.map (fun t => He.dicW K (t.1 K)) = ts.map fun t => some (He.keysIn w.params t.2) := congrArg (fun z : AlN => z.2) c
  have e2 : (ts.map fun t => He.dicW K (t.1 K))[i]? = (ts.map fun t => some (He.keysIn w.params t.2))[i]? := by rw [e]
  rw [List.getElem?_map, List.getElem?_map, h] at e2
  exact He.dicW_ok (Option.some.inj e2)
end
end DL

/-! ### facts of the written part by tests; the end -/
namespace DL
open PySem L2
abbrev gK (K : PySem.W.Frag) : G := ⟨K, fun c => He.ga K c, fun c => He.ga K c⟩
def vOf : Value → V
  | .none => .non
  | .bool b => .bl b
  | .int i _ => .int i
  | .str x _ => .str x
  | .ref a => .ref a
  | .type n => .ty n
  | _ => .non
mutual
/-- the datum d stands written as the value u -/
def relW (K : PySem.W.Frag) : D → Value → Bool
  | .non, u => decide (u = .none)
  | .bl b, u => decide (u = .bool b)
  | .int i, u => (match u with
    | .int j _ => decide (j = i)
    | _ => false)
  | .str z, u => (match u with
    | .str y _ => decide (y = z)
    | _ => false)
  | .tup ds, u => (match u with
    | .ref a => (match K.lookup a with
      | some ⟨.type c, _, .seq its _, _⟩ => decide (c = "tuple") && (decide (its.size ≤ sizeLine) && relWs K ds its.toList)
      | _ => false)
    | _ => false)
  | _, _ => false
def relWs (K : PySem.W.Frag) : List D → List Value → Bool
  | [], us => us.isEmpty
  | d :: ds, us => (match us with
    | u :: r => relW K d u && relWs K ds r
    | [] => false)
end
section
variable {K : PySem.W.Frag} {g : G}
mutual
theorem relW_ok (hK : g.K = K) : ∀ {d : D} {u : Value}, relW K d u = true → RelV (vOf u) u ∧ ∀ F, RelD g F d (vOf u)
  | .non, u, h => by unfold relW at h; cases of_decide_eq_true h; exact ⟨rfl, fun _ => relD_non⟩
  | .bl b, u, h => by unfold relW at h; cases of_decide_eq_true h; exact ⟨rfl, fun _ => relD_bl⟩
  | .int i, u, h => by
    unfold relW at h
    cases u with
    | int j t => cases of_decide_eq_true h; exact ⟨⟨t, rfl⟩, fun _ => relD_int⟩
    | _ => cases h
  | .str z, u, h => by
    unfold relW at h
    cases u with
    | str j t => cases of_decide_eq_true h; exact ⟨⟨t, rfl⟩, fun _ => relD_str⟩
    | _ => cases h
  | .tup ds, u, h => by
    unfold relW at h
    cases u with
    | ref a =>
      refine ⟨rfl, fun F => ?_⟩
      simp only at h
      cases q : K.lookup a with
      | none => rw [q] at h; cases h
      | some o =>
        obtain ⟨oc, od, dt, osl⟩ := o
        rw [q] at h
        cases oc with
        | type c =>
          cases dt with
          | seq its n =>
            obtain ⟨h1, h2⟩ := He.ba (show (decide (c = "tuple") && (decide (its.size ≤ sizeLine) && relWs K ds its.toList)) = true from h)
            obtain ⟨h3, h4⟩ := He.ba h2
            obtain ⟨h5, h6⟩ := relWs_ok hK h4
            unfold RelD
            refine ⟨a, its.toList.map vOf, rfl, ?_, h6 F⟩
            rw [hK]
            exact .inr ⟨_, its, n, q, congrArg Value.type (of_decide_eq_true h1), rfl, of_decide_eq_true h3, h5⟩
          | _ => cases h
        | _ => cases dt <;> cases h
    | _ => cases h
  | .lst _, _, h => by unfold relW at h; cases h
  | .dic _ _, _, h => by unfold relW at h; cases h
  | .ins _ _ _, _, h => by unfold relW at h; cases h
  | .ref _, _, h => by unfold relW at h; cases h
  | .cls _, _, h => by unfold relW at h; cases h
  | .cst _, _, h => by unfold relW at h; cases h
  | .ty _, _, h => by unfold relW at h; cases h
  | .scr, _, h => by unfold relW at h; cases h
theorem relWs_ok (hK : g.K = K) : ∀ {ds : List D} {us : List Value}, relWs K ds us = true → Vals (us.map vOf) us ∧ ∀ F, RelDs g F ds (us.map vOf)
  | [], us, h => by
    unfold relWs at h
    cases us with
    | nil => exact ⟨.nil, fun _ => .nil⟩
    | cons _ _ => cases h
  | d :: ds, us, h => by
    unfold relWs at h
    cases us with
    | nil => cases h
    | cons u r =>
      obtain ⟨h1, h2⟩ := He.ba h
      obtain ⟨a1, a2⟩ := relW_ok hK h1
      obtain ⟨b1, b2⟩ := relWs_ok hK h2
      exact ⟨.cons a1 b1, fun F => .cons (a2 F) (b2 F)⟩
end
def intG (K : PySem.W.Frag) (x : Str) (i : Int) : Bool := match PySem.W.nsIn K mainGlobals x with
  | some (some (.int j _)) => decide (j = i)
  | _ => false
def strG (K : PySem.W.Frag) (x z : Str) : Bool := match PySem.W.nsIn K mainGlobals x with
  | some (some (.str y _)) => decide (y = z)
  | _ => false
theorem intG_ok {h : Heap} {mg : Str → Option Value} (X : K.In h) (G : h.Ns mainGlobals mg) {x : Str} {i : Int} (c : intG K x i = true) : ∃ t, mg x = some (.int i t) := He.int_ok X G c
theorem strG_ok {h : Heap} {mg : Str → Option Value} (X : K.In h) (G : h.Ns mainGlobals mg) {x z : Str} (c : strG K x z = true) : ∃ t, mg x = some (.str z t) := He.str_ok X G c
/-- a constant of a class -/
def cvalB (K : PySem.W.Frag) (c f : Str) (d : D) : Bool := match PySem.W.findCls K (.ref (He.ga K c)) (.type "type") f with
  | some (.val u) => relW K d u
  | _ => false
theorem cvalB_ok {c f : Str} {d : D} (hK : g.K = K) (h : cvalB K c f d = true) : ∃ v u, ClX.CVal K (He.ga K c) (.type "type") f v u ∧ ∀ F, RelD g F d v := by
  unfold cvalB at h
  split at h
  · rename_i u hu
    obtain ⟨h1, h2⟩ := relW_ok hK h
    exact ⟨_, u, ⟨hu, h1⟩, h2⟩
  · cases h
/-- a classmethod's function -/
def cmAd (K : PySem.W.Frag) (c m : Str) : Addr := match PySem.W.recIn K (He.ma K (He.ga K c) m) "classmethod" with
  | some (.ref f :: _) => f
  | _ => 0
def cmOk (K : PySem.W.Frag) (c m : Str) : Bool := match PySem.W.recIn K (He.ma K (He.ga K c) m) "classmethod" with
  | some (.ref _ :: _) => true
  | _ => false
theorem cm_rc {c m : Str} (h : cmOk K c m = true) : ∃ rest, PySem.W.recIn K (He.ma K (He.ga K c) m) "classmethod" = some (.ref (cmAd K c m) :: rest) := by
  unfold cmOk at h
  unfold cmAd
  split at h
  · rename_i f r e
    rw [e]
    exact ⟨r, rfl⟩
  · cases h
/-- own classes -/
def lowTys : List String := ["bool", "int", "str", "tuple", "list", "dict"]
def ownB (cs : List Str) (K : PySem.W.Frag) : Bool := cs.all fun c => (PySem.W.plainGet K (He.ga K c) Str.empty && (PySem.W.hasDictIn K (He.ga K c) && (PySem.W.plainOver K (He.ga K c) && decide (PySem.W.findIn K (.ref (He.ga K c)) "__setattr__" = some (some (.builtin "object.__setattr__")))))) &&
  ((decide (PySem.W.findIn K (.ref (He.ga K c)) "__class__" = some (some (.builtin "object.__class__"))) && (decide (PySem.W.specialIn K (.builtin "object.__class__") "__get__" = some (some (.builtin "getset_descriptor.__get__"))) &&
  (decide (PySem.W.takesIn K (.builtin "object.__class__") = some true) && decide (PySem.W.mroIn K (He.ga K c) (.type "object") = some true)))) &&
  ((cs.all fun c' => decide (PySem.W.kitOne K (.ref (He.ga K c')) (.ref (He.ga K c)) = some (decide (c' = c)))) && ((baseTys.all fun t => decide (PySem.W.kitOne K (.type t) (.ref (He.ga K c)) = some false)) && lowTys.all fun m => decide (PySem.W.kitOne K (.ref (He.ga K c)) (.type m) = some false))))
theorem own_ok {cs : List Str} (h : ownB cs K = true) : OwnTy (gK K) cs := by
  have all := fun c hc => List.all_eq_true.mp h c hc
  refine ⟨fun c hc H a dx fs e => ?_, fun c hc c' hc' => ?_, fun c hc t ht => ?_, fun c hc m hm => ?_⟩
  · obtain ⟨h1, h2⟩ := He.ba (all c hc)
    obtain ⟨a1, a2⟩ := He.ba h1
    obtain ⟨a3, a4⟩ := He.ba a2
    obtain ⟨a5, a6⟩ := He.ba a4
    obtain ⟨b1, b2⟩ := He.ba h2
    obtain ⟨b3, b4⟩ := He.ba b1
    obtain ⟨b5, b6⟩ := He.ba b4
    obtain ⟨b7, b8⟩ := He.ba b6
    exact .base (.ins e ⟨a1, a3, a5, of_decide_eq_true a6⟩ (of_decide_eq_true b3) (of_decide_eq_true b5) (of_decide_eq_true b7) (of_decide_eq_true b8))
  · exact of_decide_eq_true (List.all_eq_true.mp (He.ba (He.ba (He.ba (all c hc)).2).2).1 c' hc')
  · exact of_decide_eq_true (List.all_eq_true.mp (He.ba (He.ba (He.ba (He.ba (all c hc)).2).2).2).1 t ht)
  · exact of_decide_eq_true (List.all_eq_true.mp (He.ba (He.ba (He.ba (He.ba (all c hc)).2).2).2).2 m hm)
end
theorem emod_lim {x l : Int} (h : 0 < l) : 0 ≤ x % l ∧ x % l < l := ⟨Int.emod_nonneg _ (by omega), Int.emod_lt_of_pos _ h⟩
theorem atI_pos {α : Type} {xs : List α} {i : Int} (h0 : 0 ≤ i) (h1 : i < xs.length) : ∃ v, L2.atI xs i = some v ∧ v ∈ xs := by
  have h2 : i.toNat < xs.length := by omega
  refine ⟨xs[i.toNat], ?_, List.getElem_mem h2⟩
  unfold L2.atI ixN
  rw [if_pos h0, if_pos h1]
  simp [h2]
/-! ### the end -/
def S.nil : S := ⟨fun _ => none, 0, fun _ _ => rfl⟩
def spLaw (K : PySem.W.Frag) : Sp := fun vs H Q _ => ∃ (a : Addr) (ns : List Int), vs = [.ref a] ∧ SqL K H a (ns.map V.int) ∧ ∀ H', Q (.bl true) H'
theorem law_end {P : Program} {w : World} {K : PySem.W.Frag} {mg : Str → Option Value} {base : Heap} {k : Nat} {f : Addr} {fd : FuncData} {x : Str} {m : List D → M Ex D} [MD m] (Fo : FnOk P w K mg base (L2.CX P w) k f fd [x] (spD (gK K) 1 m))
    (h : m [.scr] S.nil (fun d _ => d = .bl true) (fun _ _ => False)) : FnOk P w K mg base CX0 k f fd [x] (spLaw K) := by
  have sp : ∀ vs H Q E, spLaw K vs H Q E → spD (gK K) 1 m vs H Q (fun _ _ _ => False) := by
    rintro vs H Q E ⟨a, ns, rfl, hS, hQ⟩
    refine ⟨fun _ => none, H, S.nil, [.scr], rfl, ⟨Same.refl _, fun a o e => (nomatch (show (none : Option Ob) = some o from e)), fun a o e => (nomatch (show (none : Option HO) = some o from e))⟩, .one (by unfold RelD; exact ⟨a, ns, rfl, hS⟩), MD.mono _ _ _ _ _ _ (fun d s e v F' H' _ _ r => ?_) (fun _ _ z => z.elim) h⟩
    subst e
    unfold RelD at r
    rw [r]; exact hQ H'
  refine ⟨fun vs H Q E z => Fo.len _ _ _ _ (sp vs H Q E z), fun A outer s H args us vs Q E hr e0 hb r z => codeAny_mono (Fo.run A outer s H args us vs Q (fun _ _ _ => False) hr e0 hb r (sp vs H Q E z)) fun r s' hq => ?_⟩
  cases r with
  | error e =>
    obtain ⟨_, _, _, _, _, _, _, _, _, _, _, _, z⟩ := hq
    exact z.elim
  | ok fl => cases fl <;> exact hq
end DL

/-! ### running mirrors: one equation a combinator (simp only [word_snoc]) -/
namespace DL
open PySem L2
section
variable {ε α β : Type} {a b c : Env → M Ex D} {t u : Env → M Ex Bool} {as ks : Env → M Ex (List D)} {p r : Env → MS} {m : Fn} {mi : Env → M Ex Src} {l h : Env → M Ex (Option Int)} {ρ : Env} {s : S} {E : Ex → S → Prop} {EE : Ex × Env → S → Prop}
  {Q : D → S → Prop} {QB : Bool → S → Prop} {QL : List D → S → Prop} {QF : Fl → S → Prop} {QI : Src → S → Prop} {QO : Option Int → S → Prop} {QU : Unit → S → Prop} {d x y : D} {ds es : List D}
theorem x_pure {QA : α → S → Prop} {EA : ε → S → Prop} {v : α} : (pureM v : M ε α) s QA EA = QA v s := rfl
theorem x_fail {QA : α → S → Prop} {EA : ε → S → Prop} : (failM : M ε α) s QA EA = False := rfl
theorem x_raise {QA : α → S → Prop} {EA : ε → S → Prop} {v : ε} : (raiseM v : M ε α) s QA EA = EA v s := rfl
theorem x_bind {QA : β → S → Prop} {EA : ε → S → Prop} {n : M ε α} {f : α → M ε β} : bindM n f s QA EA = n s (fun v s' => f v s' QA EA) EA := rfl
theorem x_see {QA : α → S → Prop} {EA : ε → S → Prop} {q : S → Option α} : (seeM q : M ε α) s QA EA = ∃ v, q s = some v ∧ QA v s := rfl
theorem x_need {EA : ε → S → Prop} {q : Prop} : (needM q : M ε Unit) s QU EA = (q ∧ QU () s) := rfl
theorem x_up {QA : α → S → Prop} {n : M Ex α} : up ρ n s QA EE = n s QA (fun x s' => EE (x, ρ) s') := rfl
theorem x_noX {QA : α → S → Prop} {n : M Ex α} : noX n s QA E = n s QA (fun _ _ => False) := rfl
theorem x_defM {n : Nat} : defM n p ds s Q E = p (ds.map some ++ List.replicate (n - ds.length) none) s (fun f s' => flD f s' Q E) (fun x s' => E x.1 s') := rfl
theorem x_fl_nx : flD (.nx ρ) s Q E = Q .non s := rfl
theorem x_fl_rt : flD (.rt d) s Q E = Q d s := rfl
theorem x_var {i : Nat} : var i ρ s Q E = varO ρ[i]? s Q E := rfl
theorem x_varO : varO (some (some d)) s Q E = Q d s := rfl
theorem x_cst : cst d ρ s Q E = Q d s := rfl
theorem x_liftT : liftT a ρ s QB E = a ρ s (fun d s' => asB d s' QB E) E := rfl
theorem x_asB {v : Bool} : asB (.bl v) s QB E = QB v s := rfl
theorem x_notT : notT t ρ s QB E = t ρ s (fun k s' => QB (!k) s') E := rfl
def selB (k : Bool) (X Y : Prop) : Prop := if k = true then X else Y
theorem selB_t {X Y : Prop} : selB true X Y = X := if_pos rfl
theorem selB_f {X Y : Prop} : selB false X Y = Y := if_neg Bool.false_ne_true
theorem selB_eq {k : Bool} {X Y : Prop} : selB k X Y ↔ (k = true → X) ∧ (k = false → Y) := by
  cases k
  · rw [selB_f]; simp
  · rw [selB_t]; simp
theorem selB_of {k : Bool} {X Y : Prop} (h1 : k = true → X) (h2 : k = false → Y) : selB k X Y := selB_eq.mpr ⟨h1, h2⟩
theorem ite_sel {k : Bool} {n o : M ε α} {QA : α → S → Prop} {EA : ε → S → Prop} : (if k = true then n else o) s QA EA = selB k (n s QA EA) (o s QA EA) := by cases k <;> rfl
theorem x_andT : andT t u ρ s QB E = t ρ s (fun k s' => selB k (u ρ s' QB E) (QB false s')) E := by
  unfold andT bindM; simp only [ite_sel, x_pure]
theorem x_orT : orT t u ρ s QB E = t ρ s (fun k s' => selB k (QB true s') (u ρ s' QB E)) E := by
  unfold orT bindM; simp only [ite_sel, x_pure]
theorem x_boolE : boolE t ρ s Q E = t ρ s (fun k s' => Q (.bl k) s') E := rfl
theorem x_andE : andE a b ρ s Q E = liftT a ρ s (fun k s' => selB k (b ρ s' Q E) (Q (.bl false) s')) E := by
  unfold andE bindM; simp only [ite_sel, x_pure]
theorem x_orE : orE a b ρ s Q E = liftT a ρ s (fun k s' => selB k (Q (.bl true) s') (b ρ s' Q E)) E := by
  unfold orE bindM; simp only [ite_sel, x_pure]
theorem x_notE : notE a ρ s Q E = liftT a ρ s (fun k s' => Q (.bl !k) s') E := rfl
theorem x_iteE : iteE t a b ρ s Q E = t ρ s (fun k s' => selB k (a ρ s' Q E) (b ρ s' Q E)) E := by
  unfold iteE bindM; simp only [ite_sel]
theorem x_argsN : argsN ρ s QL E = QL [] s := rfl
theorem x_argsC : argsC a as ρ s QL E = a ρ s (fun d s1 => as ρ s1 (fun ds s2 => QL (d :: ds) s2) E) E := rfl
theorem x_op2 {q : P2} : op2 q a b ρ s Q E = a ρ s (fun x s1 => b ρ s1 (fun y s2 => ∃ v, q x y s2 = some v ∧ Q v s2) E) E := rfl
theorem x_chain {q q' : P2} : chainE q q' a b c ρ s Q E = a ρ s (fun x s1 => b ρ s1 (fun y s2 => ∃ v, q x y s2 = some v ∧ asB v s2 (fun k s3 => selB k (c ρ s3 (fun w s4 => ∃ v, q' y w s4 = some v ∧ Q v s4) E) (Q (.bl false) s3)) E) E) E := by
  unfold chainE bindM; simp only [ite_sel, x_pure]; rfl
theorem x_partN : partN ρ s QO E = QO none s := rfl
theorem x_partS : partS a ρ s QO E = a ρ s (fun d s1 => asI d s1 (fun i s2 => QO (some i) s2) E) E := rfl
theorem x_asI {i : Int} {QN : Int → S → Prop} : asI (.int i) s QN E = QN i s := rfl
theorem x_slice : sliceE a l h ρ s Q E = a ρ s (fun x s1 => l ρ s1 (fun lo s2 => h ρ s2 (fun hi s3 => ∃ v, slD x lo hi = some v ∧ Q v s3) E) E) E := rfl
theorem x_tupE : tupE as ρ s Q E = as ρ s (fun ds s1 => ds.length ≤ sizeLine ∧ Q (.tup ds) s1) E := rfl
theorem x_lstE : lstE as ρ s Q E = as ρ s (fun ds s1 => ds.length ≤ sizeLine ∧ Q (.lst ds) s1) E := rfl
theorem x_lstN : lstN as ρ s Q E = as ρ s (fun ds s1 => ds.length ≤ sizeLine ∧ ∀ a, s1.map a = none → Q (.ref a) (s1.set a (.lst ds))) E := rfl
theorem x_dicN : dicN ρ s Q E = ∀ a, s.map a = none → Q (.ref a) (s.set a (.dic [])) := rfl
theorem x_fldE {k f : Str} : fldE k f a ρ s Q E = a ρ s (fun x s1 => ∃ v, fldD k f x s1 = some v ∧ Q v s1) E := rfl
theorem x_prim {q : PN} : prim q as ρ s Q E = as ρ s (fun ds s1 => ∃ v, q ds s1 = some v ∧ Q v s1) E := rfl
theorem x_m1 {q : P2} : m1 q a b ρ s Q E = a ρ s (fun x s1 => ∃ v, isStr x = some v ∧ b ρ s1 (fun y s2 => ∃ v, q x y s2 = some v ∧ Q v s2) E) E := rfl
theorem x_listM {f : D → S → List D → Option (List D)} : listM f a b ρ s Q E = a ρ s (fun x s1 => ∃ v, isL x s1 = some v ∧ b ρ s1 (fun y s2 => atLf f x y s2 Q E) E) E := rfl
theorem x_callE : callE m as ks ρ s Q E = as ρ s (fun ds s1 => ks ρ s1 (fun es s2 => m ds es s2 Q E) E) E := rfl
theorem x_methE {k n : Str} : methE k n m a as ks ρ s Q E = a ρ s (fun x s1 => ∃ v, insOk k n x s1 = some v ∧ as ρ s1 (fun ds s2 => ks ρ s2 (fun es s3 => m (x :: ds) es s3 Q E) E) E) E := rfl
theorem x_posF {n : Nat} {dd : List D} {f : List D → M Ex D} (hl : ds.length = n) : posF n dd f ds [] s Q E = f (ds ++ dd) s Q E := by
  show (if ds.length = n then f (ds ++ dd) else failM) s Q E = _
  rw [if_pos hl]
theorem x_kwF {n j : Nat} {gD : List D → List D → List D} {f : List D → M Ex D} (h1 : ds.length = n) (h2 : es.length = j) : kwF n j gD f ds es s Q E = f (gD ds es) s Q E := by
  show (if ds.length = n ∧ es.length = j then f (gD ds es) else failM) s Q E = _
  rw [if_pos ⟨h1, h2⟩]
theorem x_mkM {k : Str} {fin : D → M Ex D} : mkM k m fin ds es s Q E = ∀ a, s.map a = none → m (.ref a :: ds) es (s.set a (.ins k [])) (fun r s1 => asN r s1 (fun _ s2 => fin (.ref a) s2 Q E) E) E := rfl
theorem x_asN : asN .non s QU E = QU () s := rfl
theorem x_stay : stay d s Q E = Q d s := rfl
theorem x_seqS : seqS p r ρ s QF EE = p ρ s (fun f s' => thenF r f s' QF EE) EE := rfl
theorem x_then_nx : thenF r (.nx ρ) s QF EE = r ρ s QF EE := rfl
theorem x_then_rt : thenF r (.rt d) s QF EE = QF (.rt d) s := rfl
theorem x_then_bk : thenF r (.bk ρ) s QF EE = QF (.bk ρ) s := rfl
theorem x_then_ct : thenF r (.ct ρ) s QF EE = QF (.ct ρ) s := rfl
theorem x_nilS : nilS ρ s QF EE = QF (.nx ρ) s := rfl
theorem x_neverS : neverS ρ s QF EE = False := rfl
theorem x_retS : retS a ρ s QF EE = a ρ s (fun d s' => QF (.rt d) s') (fun x s' => EE (x, ρ) s') := rfl
theorem x_retN : retN ρ s QF EE = QF (.rt .non) s := rfl
theorem x_exprS : exprS a ρ s QF EE = a ρ s (fun _ s' => QF (.nx ρ) s') (fun x s' => EE (x, ρ) s') := rfl
theorem x_ifS : ifS t p r ρ s QF EE = t ρ s (fun k s' => selB k (p ρ s' QF EE) (r ρ s' QF EE)) (fun x s' => EE (x, ρ) s') := by
  unfold ifS bindM up; simp only [ite_sel]
theorem x_setS {i : Nat} : setS i a ρ s QF EE = a ρ s (fun d s' => QF (.nx (ρ.set i (some d))) s') (fun x s' => EE (x, ρ) s') := rfl
theorem x_bkS : bkS ρ s QF EE = QF (.bk ρ) s := rfl
theorem x_ctS : ctS ρ s QF EE = QF (.ct ρ) s := rfl
def asgP (o : Option Env) (s : S) (QF : Fl → S → Prop) : Prop := ∃ ρ', o = some ρ' ∧ QF (.nx ρ') s
theorem x_asgS {f : D → Env → Option Env} : asgS f a ρ s QF EE = a ρ s (fun d s' => ∃ ρ', f d ρ = some ρ' ∧ QF (.nx ρ') s') (fun x s' => EE (x, ρ) s') := by
  unfold asgS bindM up
  congr 1
  funext d s'
  show ((match f d ρ with | some ρ' => pureM (.nx ρ') | none => failM) : MS) s' QF EE = ∃ ρ', f d ρ = some ρ' ∧ QF (.nx ρ') s'
  generalize f d ρ = o
  cases o with
  | none => exact propext ⟨fun h => h.elim, fun ⟨_, h, _⟩ => by cases h⟩
  | some ρ' => exact propext ⟨fun h => ⟨ρ', rfl, h⟩, fun ⟨_, h, z⟩ => by cases h; exact z⟩
theorem x_forS {f : D → Env → Option Env} : forS mi f p ρ s QF EE = mi ρ s (fun q s' => loopS q.P f p q.items ρ s' QF EE) (fun x s' => EE (x, ρ) s') := rfl
theorem x_loop_nil {P : S → Prop} {f : D → Env → Option Env} : loopS P f p [] ρ s QF EE = (P s ∧ QF (.nx ρ) s) := rfl
theorem x_loop_cons {P : S → Prop} {f : D → Env → Option Env} : loopS P f p (d :: ds) ρ s QF EE = (P s ∧ ∃ ρ1, f d ρ = some ρ1 ∧ p ρ1 s (fun fl s' => turnF (loopS P f p ds) fl s' QF EE) EE) := rfl
theorem x_turn_nx {k : Env → MS} : turnF k (.nx ρ) s QF EE = k ρ s QF EE := rfl
theorem x_turn_ct {k : Env → MS} : turnF k (.ct ρ) s QF EE = k ρ s QF EE := rfl
theorem x_turn_bk {k : Env → MS} : turnF k (.bk ρ) s QF EE = QF (.nx ρ) s := rfl
theorem x_turn_rt {k : Env → MS} : turnF k (.rt d) s QF EE = QF (.rt d) s := rfl
theorem x_freezeS {i : Nat} : freezeS i ρ s QF EE = varO ρ[i]? s (fun d s1 => freeze d s1 (fun x s2 => QF (.nx (ρ.set i (some x))) s2) EE) (fun x s' => EE (x, ρ) s') := rfl
theorem x_fldS {k f : Str} : fldS k f a b ρ s QF EE = b ρ s (fun y s1 => a ρ s1 (fun x s2 => setFld k f x y s2 (fun _ s3 => QF (.nx ρ) s3) EE) (fun x s' => EE (x, ρ) s')) (fun x s' => EE (x, ρ) s') := rfl
theorem x_keyS : keyS a b c ρ s QF EE = c ρ s (fun y s1 => a ρ s1 (fun x s2 => b ρ s2 (fun k s3 => setKey x k y s3 (fun _ s4 => QF (.nx ρ) s4) EE) (fun x s' => EE (x, ρ) s')) (fun x s' => EE (x, ρ) s')) (fun x s' => EE (x, ρ) s') := rfl
theorem x_iterL : iterL a ρ s QI E = a ρ s (fun d s1 => ∃ v, ((lstOf s1 d).bind fun xs => if xs.length ≤ sizeLine then some (⟨xs, srcP d xs⟩ : Src) else none) = some v ∧ QI v s1) E := rfl
theorem x_iterT : iterT a ρ s QI E = a ρ s (fun d s1 => ∃ v, ((tupOf d).bind fun xs => if xs.length ≤ sizeLine then some (⟨xs, fun _ => True⟩ : Src) else none) = some v ∧ QI v s1) E := rfl
def strSrc : D → Option Src
  | .str z => if z.length ≤ sizeLine then some ⟨signs z, fun _ => True⟩ else none
  | _ => none
theorem x_iterS : iterS a ρ s QI E = a ρ s (fun d s1 => ∃ v, strSrc d = some v ∧ QI v s1) E := by
  show a ρ s (fun d s1 => seeM (fun _ => match d with | .str z => if z.length ≤ sizeLine then some (⟨signs z, fun _ => True⟩ : Src) else none | _ => none) s1 QI E) E = _
  congr 1
theorem x_iterR {q : List D → Option Src} : iterR q as ρ s QI E = as ρ s (fun ds s1 => ∃ v, q ds = some v ∧ QI v s1) E := rfl
theorem x_iterZ : iterZ as ρ s QI E = as ρ s (fun ds s1 => ∃ v, zipSrc s1 ds = some v ∧ QI v s1) E := rfl
theorem x_lcE {own : List Nat} {f : D → Env → Option Env} {out : List D → M Ex D} : lcE mi own f t a out ρ s Q E = mi ρ s (fun q s1 => lcLoop q.P f t a (wipeD ρ own) q.items [] s1 (fun ds s2 => out ds s2 Q E) E) E := rfl
theorem x_outF : outF ds s Q E = Q (.lst ds) s := rfl
theorem x_yesT : yesT ρ s QB E = QB true s := rfl
theorem x_lc_nil {P : S → Prop} {f : D → Env → Option Env} : lcLoop P f t a ρ [] ds s QL E = (P s ∧ QL ds s) := rfl
theorem x_lc_cons {P : S → Prop} {f : D → Env → Option Env} : lcLoop P f t a ρ (d :: es) ds s QL E = (P s ∧ ∃ ρ1, f d ρ = some ρ1 ∧ t ρ1 s (fun k s1 => selB k (a ρ1 s1 (fun y s2 => lcLoop P f t a ρ es (ds ++ [y]) s2 QL E) (fun _ _ => False)) (lcLoop P f t a ρ es ds s1 QL E)) (fun _ _ => False)) := by
  show (P s ∧ ∃ ρ1, f d ρ = some ρ1 ∧ bindM (noX (t ρ1)) (fun b => if b = true then bindM (noX (a ρ1)) fun y => lcLoop P f t a ρ es (ds ++ [y]) else lcLoop P f t a ρ es ds) s QL E) = _
  simp only [x_bind, x_noX, ite_sel]
/-! the frame's slots, lists, options -/
theorem e_start {x : α} {xs : List α} : List.map some (x :: xs) = some x :: List.map some xs := rfl
theorem e_startN : List.map some ([] : List α) = [] := rfl
theorem e_some {x : α} {P : α → Prop} : (∃ v, some x = some v ∧ P v) = P x := by simp
theorem e_none {P : α → Prop} : (∃ v, (none : Option α) = some v ∧ P v) = False := by simp
theorem e_bind {x : α} {f : α → Option β} : (some x).bind f = f x := rfl
theorem e_map {x : α} {f : α → β} : (some x).map f = some (f x) := rfl
theorem e_bindn {f : α → Option β} : (none : Option α).bind f = none := rfl
theorem e_mapn {f : α → β} : (none : Option α).map f = none := rfl
theorem e_get0 {x : α} {xs : List α} : (x :: xs)[0]? = some x := rfl
theorem e_getS {x : α} {xs : List α} {n : Nat} : (x :: xs)[n + 1]? = xs[n]? := rfl
theorem e_set0 {x y : α} {xs : List α} : (x :: xs).set 0 y = y :: xs := rfl
theorem e_setS {x y : α} {xs : List α} {n : Nat} : (x :: xs).set (n + 1) y = x :: xs.set n y := rfl
theorem e_app {x : α} {xs ys : List α} : (x :: xs) ++ ys = x :: (xs ++ ys) := rfl
theorem e_appN {ys : List α} : ([] : List α) ++ ys = ys := rfl
theorem e_len {x : α} {xs : List α} : (x :: xs).length = xs.length + 1 := rfl
theorem e_lenN : ([] : List α).length = 0 := rfl
theorem e_repS {x : α} {n : Nat} : List.replicate (n + 1) x = x :: List.replicate n x := rfl
theorem e_rep0 {x : α} : List.replicate 0 x = [] := rfl
theorem e_name {i : Nat} : toName i d ρ = some (ρ.set i (some d)) := rfl
theorem e_tup {n : Nat} {f : List D → Env → Option Env} (hl : ds.length = n) : toTup n f (.tup ds) ρ = f ds ρ := if_pos hl
theorem e_consT {f : D → Env → Option Env} {k : List D → Env → Option Env} : toCons f k (d :: ds) ρ = (f d ρ).bind fun ρ' => k ds ρ' := by
  show (match f d ρ with | some ρ' => k ds ρ' | none => none) = _
  cases f d ρ <;> rfl
theorem e_nilT : toNil [] ρ = some ρ := rfl
theorem e_wipe0 : wipeD ρ [] = ρ := rfl
theorem e_wipeS {v : Nat} {vs : List Nat} : wipeD ρ (v :: vs) = (wipeD ρ vs).set v none := rfl
end
end DL

namespace DL
def runs_D14 := And.intro @x_pure (And.intro @x_fail (And.intro @x_raise (And.intro @x_bind (And.intro @x_see (And.intro @x_need (And.intro @x_up (And.intro @x_noX (And.intro @x_defM (And.intro @x_fl_nx (And.intro @x_fl_rt (And.intro @x_var (And.intro @x_varO (And.intro @x_cst (And.intro @x_liftT (And.intro @x_asB (And.intro @x_notT (And.intro @selB_t (And.intro @selB_f (And.intro @x_andT (And.intro @x_orT (And.intro @x_boolE (And.intro @x_andE (And.intro @x_orE (And.intro @x_notE (And.intro @x_iteE (And.intro @x_argsN (And.intro @x_argsC (And.intro @x_op2 (And.intro @x_chain (And.intro @x_partN (And.intro @x_partS (And.intro @x_asI (And.intro @x_slice (And.intro @x_tupE (And.intro @x_lstE (And.intro @x_lstN (And.intro @x_dicN (And.intro @x_fldE (And.intro @x_prim (And.intro @x_m1 (And.intro @x_listM (And.intro @x_callE (And.intro @x_methE (And.intro @x_posF (And.intro @x_kwF (And.intro @x_mkM (And.intro @x_asN (And.intro @x_stay (And.intro @x_seqS (And.intro @x_then_nx (And.intro @x_then_rt (And.intro @x_then_bk (And.intro @x_then_ct (And.intro @x_nilS (And.intro @x_neverS (And.intro @x_retS (And.intro @x_retN (And.intro @x_exprS (And.intro @x_ifS (And.intro @x_setS (And.intro @x_bkS (And.intro @x_ctS (And.intro @x_asgS (And.intro @x_forS (And.intro @x_loop_nil (And.intro @x_turn_nx (And.intro @x_turn_ct (And.intro @x_turn_bk (And.intro @x_turn_rt (And.intro @x_freezeS (And.intro @x_fldS (And.intro @x_keyS (And.intro @x_iterL (And.intro @x_iterT (And.intro @x_iterS (And.intro @x_iterR (And.intro @x_iterZ (And.intro @x_lcE (And.intro @x_outF (And.intro @x_yesT (And.intro @x_lc_nil (And.intro @e_start (And.intro @e_startN (And.intro @e_some (And.intro @e_none (And.intro @e_bind (And.intro @e_map (And.intro @e_bindn (And.intro @e_mapn (And.intro @e_get0 (And.intro @e_getS (And.intro @e_set0 (And.intro @e_setS (And.intro @e_app (And.intro @e_appN (And.intro @e_len (And.intro @e_lenN (And.intro @e_repS (And.intro @e_rep0 (And.intro @e_name (And.intro @e_tup (And.intro @e_consT (And.intro @e_nilT (And.intro @e_wipe0 (@e_wipeS)))))))))))))))))))))))))))))))))))))))))))))))))))))))))))))))))))))))))))))))))))))))))))))))))))))))))
end DL
/-! ### what the primitives give -/
namespace DL
open PySem L2
variable {cs : List Str} {s : S} {i j : Int} {z y : Str} {b c : Bool} {xs ys : List D}
theorem isi_non_bool  : isiD cs [.non, .ty "bool"] s = some (.bl false) := by simp [isiD, isiB, tyS, subT]
theorem isi_non_int  : isiD cs [.non, .ty "int"] s = some (.bl false) := by simp [isiD, isiB, tyS, subT]
theorem isi_non_str  : isiD cs [.non, .ty "str"] s = some (.bl false) := by simp [isiD, isiB, tyS, subT]
theorem isi_non_tuple  : isiD cs [.non, .ty "tuple"] s = some (.bl false) := by simp [isiD, isiB, tyS, subT]
theorem isi_non_list  : isiD cs [.non, .ty "list"] s = some (.bl false) := by simp [isiD, isiB, tyS, subT]
theorem isi_non_dict  : isiD cs [.non, .ty "dict"] s = some (.bl false) := by simp [isiD, isiB, tyS, subT]
theorem isi_non_cls  {k : Str} (h : k ∈ cs) : isiD cs [.non, .cls k] s = some (.bl false) := by simp [isiD, isiB, tyS, h]
theorem isi_bl_bool {b : Bool} : isiD cs [.bl b, .ty "bool"] s = some (.bl true) := by simp [isiD, isiB, tyS, subT]
theorem isi_bl_int {b : Bool} : isiD cs [.bl b, .ty "int"] s = some (.bl true) := by simp [isiD, isiB, tyS, subT]
theorem isi_bl_str {b : Bool} : isiD cs [.bl b, .ty "str"] s = some (.bl false) := by simp [isiD, isiB, tyS, subT]
theorem isi_bl_tuple {b : Bool} : isiD cs [.bl b, .ty "tuple"] s = some (.bl false) := by simp [isiD, isiB, tyS, subT]
theorem isi_bl_list {b : Bool} : isiD cs [.bl b, .ty "list"] s = some (.bl false) := by simp [isiD, isiB, tyS, subT]
theorem isi_bl_dict {b : Bool} : isiD cs [.bl b, .ty "dict"] s = some (.bl false) := by simp [isiD, isiB, tyS, subT]
theorem isi_bl_cls {b : Bool} {k : Str} (h : k ∈ cs) : isiD cs [.bl b, .cls k] s = some (.bl false) := by simp [isiD, isiB, tyS, h]
theorem isi_int_bool {i : Int} : isiD cs [.int i, .ty "bool"] s = some (.bl false) := by simp [isiD, isiB, tyS, subT]
theorem isi_int_int {i : Int} : isiD cs [.int i, .ty "int"] s = some (.bl true) := by simp [isiD, isiB, tyS, subT]
theorem isi_int_str {i : Int} : isiD cs [.int i, .ty "str"] s = some (.bl false) := by simp [isiD, isiB, tyS, subT]
theorem isi_int_tuple {i : Int} : isiD cs [.int i, .ty "tuple"] s = some (.bl false) := by simp [isiD, isiB, tyS, subT]
theorem isi_int_list {i : Int} : isiD cs [.int i, .ty "list"] s = some (.bl false) := by simp [isiD, isiB, tyS, subT]
theorem isi_int_dict {i : Int} : isiD cs [.int i, .ty "dict"] s = some (.bl false) := by simp [isiD, isiB, tyS, subT]
theorem isi_int_cls {i : Int} {k : Str} (h : k ∈ cs) : isiD cs [.int i, .cls k] s = some (.bl false) := by simp [isiD, isiB, tyS, h]
theorem isi_str_bool {z : Str} : isiD cs [.str z, .ty "bool"] s = some (.bl false) := by simp [isiD, isiB, tyS, subT]
theorem isi_str_int {z : Str} : isiD cs [.str z, .ty "int"] s = some (.bl false) := by simp [isiD, isiB, tyS, subT]
theorem isi_str_str {z : Str} : isiD cs [.str z, .ty "str"] s = some (.bl true) := by simp [isiD, isiB, tyS, subT]
theorem isi_str_tuple {z : Str} : isiD cs [.str z, .ty "tuple"] s = some (.bl false) := by simp [isiD, isiB, tyS, subT]
theorem isi_str_list {z : Str} : isiD cs [.str z, .ty "list"] s = some (.bl false) := by simp [isiD, isiB, tyS, subT]
theorem isi_str_dict {z : Str} : isiD cs [.str z, .ty "dict"] s = some (.bl false) := by simp [isiD, isiB, tyS, subT]
theorem isi_str_cls {z : Str} {k : Str} (h : k ∈ cs) : isiD cs [.str z, .cls k] s = some (.bl false) := by simp [isiD, isiB, tyS, h]
theorem isi_tup_bool {xs : List D} : isiD cs [.tup xs, .ty "bool"] s = some (.bl false) := by simp [isiD, isiB, tyS, subT]
theorem isi_tup_int {xs : List D} : isiD cs [.tup xs, .ty "int"] s = some (.bl false) := by simp [isiD, isiB, tyS, subT]
theorem isi_tup_str {xs : List D} : isiD cs [.tup xs, .ty "str"] s = some (.bl false) := by simp [isiD, isiB, tyS, subT]
theorem isi_tup_tuple {xs : List D} : isiD cs [.tup xs, .ty "tuple"] s = some (.bl true) := by simp [isiD, isiB, tyS, subT]
theorem isi_tup_list {xs : List D} : isiD cs [.tup xs, .ty "list"] s = some (.bl false) := by simp [isiD, isiB, tyS, subT]
theorem isi_tup_dict {xs : List D} : isiD cs [.tup xs, .ty "dict"] s = some (.bl false) := by simp [isiD, isiB, tyS, subT]
theorem isi_tup_cls {xs : List D} {k : Str} (h : k ∈ cs) : isiD cs [.tup xs, .cls k] s = some (.bl false) := by simp [isiD, isiB, tyS, h]
theorem isi_lst_bool {xs : List D} : isiD cs [.lst xs, .ty "bool"] s = some (.bl false) := by simp [isiD, isiB, tyS, subT]
theorem isi_lst_int {xs : List D} : isiD cs [.lst xs, .ty "int"] s = some (.bl false) := by simp [isiD, isiB, tyS, subT]
theorem isi_lst_str {xs : List D} : isiD cs [.lst xs, .ty "str"] s = some (.bl false) := by simp [isiD, isiB, tyS, subT]
theorem isi_lst_tuple {xs : List D} : isiD cs [.lst xs, .ty "tuple"] s = some (.bl false) := by simp [isiD, isiB, tyS, subT]
theorem isi_lst_list {xs : List D} : isiD cs [.lst xs, .ty "list"] s = some (.bl true) := by simp [isiD, isiB, tyS, subT]
theorem isi_lst_dict {xs : List D} : isiD cs [.lst xs, .ty "dict"] s = some (.bl false) := by simp [isiD, isiB, tyS, subT]
theorem isi_lst_cls {xs : List D} {k : Str} (h : k ∈ cs) : isiD cs [.lst xs, .cls k] s = some (.bl false) := by simp [isiD, isiB, tyS, h]
theorem isi_dic_bool {ks : List Key} {vs : List D} : isiD cs [.dic ks vs, .ty "bool"] s = some (.bl false) := by simp [isiD, isiB, tyS, subT]
theorem isi_dic_int {ks : List Key} {vs : List D} : isiD cs [.dic ks vs, .ty "int"] s = some (.bl false) := by simp [isiD, isiB, tyS, subT]
theorem isi_dic_str {ks : List Key} {vs : List D} : isiD cs [.dic ks vs, .ty "str"] s = some (.bl false) := by simp [isiD, isiB, tyS, subT]
theorem isi_dic_tuple {ks : List Key} {vs : List D} : isiD cs [.dic ks vs, .ty "tuple"] s = some (.bl false) := by simp [isiD, isiB, tyS, subT]
theorem isi_dic_list {ks : List Key} {vs : List D} : isiD cs [.dic ks vs, .ty "list"] s = some (.bl false) := by simp [isiD, isiB, tyS, subT]
theorem isi_dic_dict {ks : List Key} {vs : List D} : isiD cs [.dic ks vs, .ty "dict"] s = some (.bl true) := by simp [isiD, isiB, tyS, subT]
theorem isi_dic_cls {ks : List Key} {vs : List D} {k : Str} (h : k ∈ cs) : isiD cs [.dic ks vs, .cls k] s = some (.bl false) := by simp [isiD, isiB, tyS, h]
theorem isi_ins_cls {k k' : Str} {ns : List Str} {vs : List D} (h : k ∈ cs) (h' : k' ∈ cs) : isiD cs [.ins k' ns vs, .cls k] s = some (.bl (decide (k' = k))) := by simp [isiD, isiB, tyS, clsS, h, h']
theorem isi_ins_ty {k' : Str} {m : String} {ns : List Str} {vs : List D} (hm : m ∈ lowTys) (h' : k' ∈ cs) : isiD cs [.ins k' ns vs, .ty m] s = some (.bl false) := by
  show Option.map D.bl (if m ∈ ["bool", "int", "str", "tuple", "list", "dict"] then (Option.bind (some k') fun c' => if c' ∈ cs then some false else none) else none) = some (D.bl false)
  rw [if_pos (show m ∈ ["bool", "int", "str", "tuple", "list", "dict"] from hm)]
  simp [h']
theorem add_int : addD (.int i) (.int j) s = some (.int (i + j)) := rfl
theorem add_str (h : z.length + y.length ≤ sizeLine) : addD (.str z) (.str y) s = some (.str (z ++ y)) := if_pos h
theorem add_tup (h : xs.length + ys.length ≤ sizeLine) : addD (.tup xs) (.tup ys) s = some (.tup (xs ++ ys)) := if_pos h
theorem sub_int : subD (.int i) (.int j) s = some (.int (i - j)) := rfl
theorem lt_int : ltD (.int i) (.int j) s = some (.bl (decide (i < j))) := rfl
theorem le_int : leD (.int i) (.int j) s = some (.bl (decide (i ≤ j))) := rfl
theorem gt_int : gtD (.int i) (.int j) s = some (.bl (decide (j < i))) := rfl
theorem ge_int : geD (.int i) (.int j) s = some (.bl (decide (j ≤ i))) := rfl
theorem eq_int : eqD (.int i) (.int j) s = some (.bl (decide (i = j))) := by simp [eqD, eqB, eqS, scalV, scal]
theorem eq_str : eqD (.str z) (.str y) s = some (.bl (decide (z = y))) := by simp [eqD, eqB, eqS, scalV, scal]
theorem eq_bl : eqD (.bl b) (.bl c) s = some (.bl (decide (b = c))) := by simp [eqD, eqB, eqS, scalV, scal]
theorem ne_int : neD (.int i) (.int j) s = some (.bl (!decide (i = j))) := by simp [neD, eqB, eqS, scalV, scal]
theorem ne_str : neD (.str z) (.str y) s = some (.bl (!decide (z = y))) := by simp [neD, eqB, eqS, scalV, scal]
theorem ne_bl : neD (.bl b) (.bl c) s = some (.bl (!decide (b = c))) := by simp [neD, eqB, eqS, scalV, scal]
theorem is_non {x : D} : isD x .non s = some (.bl (isNon x)) := rfl
theorem isnt_non {x : D} : isntD x .non s = some (.bl (!isNon x)) := rfl
theorem isNon_non : isNon .non = true := rfl
theorem isNon_str : isNon (.str z) = false := rfl
theorem isNon_tup : isNon (.tup xs) = false := rfl
theorem isNon_ins {k : Str} {ns : List Str} {vs : List D} : isNon (.ins k ns vs) = false := rfl
theorem le_sz0 : (0 ≤ sizeLine) = True := eq_true (by decide)
theorem le_sz1 : (1 ≤ sizeLine) = True := eq_true (by decide)
theorem le_sz2 : (2 ≤ sizeLine) = True := eq_true (by decide)
theorem le_sz3 : (3 ≤ sizeLine) = True := eq_true (by decide)
theorem le_sz4 : (4 ≤ sizeLine) = True := eq_true (by decide)
theorem le_sz5 : (5 ≤ sizeLine) = True := eq_true (by decide)
theorem le_sz6 : (6 ≤ sizeLine) = True := eq_true (by decide)
theorem le_sz7 : (7 ≤ sizeLine) = True := eq_true (by decide)
theorem le_sz8 : (8 ≤ sizeLine) = True := eq_true (by decide)
theorem le_sz9 : (9 ≤ sizeLine) = True := eq_true (by decide)
theorem le_sz10 : (10 ≤ sizeLine) = True := eq_true (by decide)
theorem le_sz11 : (11 ≤ sizeLine) = True := eq_true (by decide)
theorem le_sz12 : (12 ≤ sizeLine) = True := eq_true (by decide)
theorem le_sz13 : (13 ≤ sizeLine) = True := eq_true (by decide)
theorem le_sz14 : (14 ≤ sizeLine) = True := eq_true (by decide)
theorem le_sz15 : (15 ≤ sizeLine) = True := eq_true (by decide)
theorem le_sz16 : (16 ≤ sizeLine) = True := eq_true (by decide)
theorem le_sz17 : (17 ≤ sizeLine) = True := eq_true (by decide)
theorem le_sz18 : (18 ≤ sizeLine) = True := eq_true (by decide)
theorem le_sz19 : (19 ≤ sizeLine) = True := eq_true (by decide)
theorem le_sz20 : (20 ≤ sizeLine) = True := eq_true (by decide)
theorem le_sz21 : (21 ≤ sizeLine) = True := eq_true (by decide)
theorem le_sz22 : (22 ≤ sizeLine) = True := eq_true (by decide)
theorem le_sz23 : (23 ≤ sizeLine) = True := eq_true (by decide)
theorem le_sz24 : (24 ≤ sizeLine) = True := eq_true (by decide)
theorem le_sz25 : (25 ≤ sizeLine) = True := eq_true (by decide)
theorem le_sz26 : (26 ≤ sizeLine) = True := eq_true (by decide)
theorem le_sz27 : (27 ≤ sizeLine) = True := eq_true (by decide)
theorem le_sz28 : (28 ≤ sizeLine) = True := eq_true (by decide)
theorem le_sz29 : (29 ≤ sizeLine) = True := eq_true (by decide)
theorem le_sz30 : (30 ≤ sizeLine) = True := eq_true (by decide)
theorem le_sz31 : (31 ≤ sizeLine) = True := eq_true (by decide)
theorem len_str (h : z.length ≤ sizeLine) : lenD [.str z] s = some (.int z.length) := if_pos h
theorem len_tup : lenD [.tup xs] s = some (.int xs.length) := rfl
theorem len_lst : lenD [.lst xs] s = some (.int xs.length) := rfl
theorem ix_str {k : Nat} (h : z.length ≤ sizeLine) (e : atI z.cps.toList i = some k) : ixD (.str z) (.int i) s = some (.str ⟨#[k]⟩) := by
  show (if z.length ≤ sizeLine then (atI z.cps.toList i).map fun c => D.str ⟨#[c]⟩ else none) = _
  rw [if_pos h, e]; rfl
theorem ix_tup : ixD (.tup xs) (.int i) s = atI xs i := rfl
theorem ix_lst : ixD (.lst xs) (.int i) s = atI xs i := rfl
theorem tupOf_tup : tupOf (.tup xs) = some xs := rfl
theorem lstOf_lst : lstOf s (.lst xs) = some xs := rfl
theorem srcP_lst : srcP (.lst ys) xs = fun _ => True := rfl
theorem listF_tup : listF [.tup xs] s = some (.lst xs) := rfl
theorem listF_lst : listF [.lst xs] s = some (.lst xs) := rfl
theorem tupleF_tup : tupleF [.tup xs] s = some (.tup xs) := rfl
theorem tupleF_lst : tupleF [.lst xs] s = some (.tup xs) := rfl
theorem isStr_str : isStr (.str z) = some () := rfl
theorem e_true_and {P : Prop} : (True ∧ P) = P := by simp
theorem e_exU {P : Prop} : (∃ _ : Unit, P) = P := by simp
theorem e_notT : (!true) = false := rfl
theorem e_notF : (!false) = true := rfl
/-- a draw -/
theorem draw_wp {a : Addr} {c : Addr} {l : Int} {Q : D → S → Prop} {E : Ex → S → Prop} (h : s.map a = some (.bag c)) (h0 : 0 < l) (h1 : l < 2 ^ 200) (q : ∀ v : Int, 0 ≤ v → v < l → Q (.int v) s) : drawF [.ref a, .int l] s Q E := ⟨a, c, l, rfl, h, h0, h1, q⟩
/-- a loop: what holds between two turns -/
theorem loop_inv {P : S → Prop} {f : D → Env → Option Env} {p : Env → MS} [MB p] {QF : Fl → S → Prop} {EE : Ex × Env → S → Prop} (I : List D → Env → S → Prop) :
    ∀ (ds : List D) (ρ : Env) (s : S), I ds ρ s → (∀ d ds ρ s, I (d :: ds) ρ s → P s ∧ ∃ ρ1, f d ρ = some ρ1 ∧ p ρ1 s (fun fl s' => turnF (fun ρ' s'' _ _ => I ds ρ' s'') fl s' QF EE) EE) → (∀ ρ s, I [] ρ s → P s ∧ QF (.nx ρ) s) → loopS P f p ds ρ s QF EE
  | [], ρ, s, h, _, e => e ρ s h
  | d :: ds, ρ, s, h, st, e => by
    obtain ⟨h1, ρ1, h2, h3⟩ := st d ds ρ s h
    refine ⟨h1, ρ1, h2, MB.mono ρ1 _ _ _ _ _ (fun fl s' k => ?_) (fun _ _ x => x) h3⟩
    cases fl with
    | nx ρ' => exact loop_inv I ds ρ' s' k st e
    | ct ρ' => exact loop_inv I ds ρ' s' k st e
    | bk ρ' => exact k
    | rt d => exact k
/-- a comprehension: what holds between two turns -/
theorem lc_inv {P : S → Prop} {f : D → Env → Option Env} {t : Env → M Ex Bool} {a : Env → M Ex D} [MB t] [MB a] {ρ : Env} {QL : List D → S → Prop} {E : Ex → S → Prop} (I : List D → List D → S → Prop) :
    ∀ (ds acc : List D) (s : S), I ds acc s → (∀ d ds acc s, I (d :: ds) acc s → P s ∧ ∃ ρ1, f d ρ = some ρ1 ∧ t ρ1 s (fun k s1 => selB k (a ρ1 s1 (fun y s2 => I ds (acc ++ [y]) s2) (fun _ _ => False)) (I ds acc s1)) (fun _ _ => False)) →
      (∀ acc s, I [] acc s → P s ∧ QL acc s) → lcLoop P f t a ρ ds acc s QL E
  | [], acc, s, h, _, e => e acc s h
  | d :: ds, acc, s, h, st, e => by
    obtain ⟨h1, ρ1, h2, h3⟩ := st d ds acc s h
    rw [x_lc_cons]
    refine ⟨h1, ρ1, h2, MB.mono ρ1 _ _ _ _ _ (fun k s1 z => ?_) (fun _ _ x => x) h3⟩
    cases k with
    | true => rw [selB_t] at z ⊢; exact MB.mono ρ1 _ _ _ _ _ (fun y s2 q => lc_inv I ds _ s2 q st e) (fun _ _ x => x) z
    | false => rw [selB_f] at z ⊢; exact lc_inv I ds _ s1 z st e
/-- a pure comprehension -/
theorem lc_map {f : D → Env → Option Env} {t : Env → M Ex Bool} {a : Env → M Ex D} {ρ : Env} {QL : List D → S → Prop} {E : Ex → S → Prop} (k : D → Bool) (g : D → D) :
    ∀ (ds acc : List D) (s : S), (∀ d ∈ ds, ∃ ρ1, f d ρ = some ρ1 ∧ t ρ1 = pureM (k d) ∧ (k d = true → a ρ1 = pureM (g d))) → QL (acc ++ (ds.filter k).map g) s → lcLoop (fun _ => True) f t a ρ ds acc s QL E
  | [], acc, s, _, q => ⟨trivial, by simpa using q⟩
  | d :: ds, acc, s, h, q => by
    obtain ⟨ρ1, h1, h2, h3⟩ := h d List.mem_cons_self
    rw [x_lc_cons]
    refine ⟨trivial, ρ1, h1, ?_⟩
    rw [h2, x_pure]
    cases e : k d with
    | true =>
      rw [selB_t, h3 e, x_pure]
      refine lc_map k g ds _ s (fun x hx => h x (List.mem_cons_of_mem _ hx)) ?_
      rw [List.filter_cons, e] at q
      simpa using q
    | false =>
      rw [selB_f]
      refine lc_map k g ds _ s (fun x hx => h x (List.mem_cons_of_mem _ hx)) ?_
      rw [List.filter_cons, e] at q
      simpa using q
/-- two statements in a row, by what holds between them -/
theorem seq_cut {p r : Env → MS} [MB p] {ρ : Env} {QF : Fl → S → Prop} {EE : Ex × Env → S → Prop} (I : Env → S → Prop) (h1 : p ρ s (fun f s' => thenF (fun ρ' s'' _ _ => I ρ' s'') f s' QF EE) EE) (h2 : ∀ ρ' s', I ρ' s' → r ρ' s' QF EE) : seqS p r ρ s QF EE := by
  refine MB.mono (m := p) ρ _ _ _ _ _ (fun f s' k => ?_) (fun _ _ x => x) h1
  cases f with
  | nx ρ' => exact h2 ρ' s' k
  | _ => exact k
end DL

namespace DL
def runs_D15 := And.intro @isi_non_bool (And.intro @isi_non_int (And.intro @isi_non_str (And.intro @isi_non_tuple (And.intro @isi_non_list (And.intro @isi_non_dict (And.intro @isi_bl_bool (And.intro @isi_bl_int (And.intro @isi_bl_str (And.intro @isi_bl_tuple (And.intro @isi_bl_list (And.intro @isi_bl_dict (And.intro @isi_int_bool (And.intro @isi_int_int (And.intro @isi_int_str (And.intro @isi_int_tuple (And.intro @isi_int_list (And.intro @isi_int_dict (And.intro @isi_str_bool (And.intro @isi_str_int (And.intro @isi_str_str (And.intro @isi_str_tuple (And.intro @isi_str_list (And.intro @isi_str_dict (And.intro @isi_tup_bool (And.intro @isi_tup_int (And.intro @isi_tup_str (And.intro @isi_tup_tuple (And.intro @isi_tup_list (And.intro @isi_tup_dict (And.intro @isi_lst_bool (And.intro @isi_lst_int (And.intro @isi_lst_str (And.intro @isi_lst_tuple (And.intro @isi_lst_list (And.intro @isi_lst_dict (And.intro @isi_dic_bool (And.intro @isi_dic_int (And.intro @isi_dic_str (And.intro @isi_dic_tuple (And.intro @isi_dic_list (And.intro @isi_dic_dict (And.intro @add_int (And.intro @sub_int (And.intro @lt_int (And.intro @le_int (And.intro @gt_int (And.intro @ge_int (And.intro @eq_int (And.intro @eq_str (And.intro @eq_bl (And.intro @ne_int (And.intro @ne_str (And.intro @ne_bl (And.intro @is_non (And.intro @isnt_non (And.intro @isNon_non (And.intro @isNon_str (And.intro @isNon_tup (And.intro @isNon_ins (And.intro @le_sz0 (And.intro @le_sz1 (And.intro @le_sz2 (And.intro @le_sz3 (And.intro @le_sz4 (And.intro @le_sz5 (And.intro @le_sz6 (And.intro @le_sz7 (And.intro @le_sz8 (And.intro @le_sz9 (And.intro @le_sz10 (And.intro @le_sz11 (And.intro @le_sz12 (And.intro @le_sz13 (And.intro @le_sz14 (And.intro @le_sz15 (And.intro @le_sz16 (And.intro @le_sz17 (And.intro @le_sz18 (And.intro @le_sz19 (And.intro @le_sz20 (And.intro @le_sz21 (And.intro @le_sz22 (And.intro @le_sz23 (And.intro @le_sz24 (And.intro @le_sz25 (And.intro @le_sz26 (And.intro @le_sz27 (And.intro @le_sz28 (And.intro @le_sz29 (And.intro @le_sz30 (And.intro @le_sz31 (And.intro @len_tup (And.intro @len_lst (And.intro @ix_tup (And.intro @ix_lst (And.intro @tupOf_tup (And.intro @lstOf_lst (And.intro @srcP_lst (And.intro @listF_tup (And.intro @listF_lst (And.intro @tupleF_tup (And.intro @tupleF_lst (And.intro @isStr_str (And.intro @e_true_and (And.intro @e_exU (And.intro @e_notT (@e_notF)))))))))))))))))))))))))))))))))))))))))))))))))))))))))))))))))))))))))))))))))))))))))))))))))))))))))))
end DL
/-! ### == and != of own instances; == of tuples of such -/
namespace DL
open PySem L2
theorem ne_bind (self : Value) : bindSpecial (.builtin "object.__ne__") self = pure (.builtin "object.__ne__", [self]) :=
  (Slot.of (T := "object") (name := "__ne__") (owner := "object") (n := "__ne__") (by rw [typeLookup_type, builtinLookup_eq_fast]; kernel_rfl) (by decide +kernel) (by decide +kernel) (by decide +kernel)
    (.inl (by decide +kernel)) (by rw [isSubtype_type]; kernel_rfl)).bind self
section
open PySem.W
variable {prog : Program} {w : World} {A : Around} {E : Value → Shared → Prop} {s : Shared} {K : Frag} {x C f : Addr} {ox : Obj} {od : Option Obj} {b tb : Value}
theorem ne_try {Q : Option Value → Shared → Prop} (hu : A.units + 1 < cLine) (X : K.In s.heap) (I : InstAt s.heap x ox C od)
    (hsn : findIn K (.ref C) "__ne__" = some (some (.builtin "object.__ne__"))) (hse : findIn K (.ref C) "__eq__" = some (some (.ref f))) (hf : isFn K (.ref f) = true) (hm : mroIn K C (.type "object") = some true)
    (h : wpAny (model prog w) A.in1 (call (.ref f) [.ref x, b]) (fun v s' => ∃ k, v = .bool k ∧ Q (some (.bool (!k))) s') E s) :
    wpAny (model prog w) A (tryCompare (.ref x) "__ne__" b) Q E s := by
  obtain ⟨hp, g, d, t, os⟩ := s
  have L0 := I.type (M := model prog w)
  have L1 := looks_mroIn (M := model prog w) X hm
  unfold tryCompare
  refine wpAny_bind ?_
  simp only [callSpecialIfBound?, bindSpecialIfBound?]
  refine wpAny_holding (wpAny_bind (wpAny_bind (wpAny_bind (I.type.here ((looks_findIn X hsn).here ?_)))))
  refine wpAny_bind (wpAny_askSetting (wpAny_ite ?_))
  have fin : wpAny (model prog w) A (call (.builtin "object.__ne__") ([.ref x] ++ [b]) >>= fun v => pure (some v)) (fun r s' => ∃ k, r = some (.bool k) ∧ Q (some (.bool k)) s') E ⟨hp, g, d, t, os⟩ := by
    refine wpAny_bind (wpAny_call (codeAny_call_builtin (by decide +kernel) PySem.F.cmpEntry_ne ?_))
    have args : ∀ sig, Manifest.signature? "object.__ne__" = some sig → Bind.checkArgs "object.__ne__" sig ⟨[.ref x, b], []⟩ = pure () := fun sig e => by
      have ha := PySem.F.cmpArgs_ne (.ref x) b
      simp only [argsOk, e] at ha
      exact ha
    simp only [checkBuiltinCall, PySem.F.cmpKind_ne, PySem.F.cmpSplit_ne]
    refine wpAny_bind ?_
    unfold isInstance
    have hu1 : A.in1.units < cLine := hu
    repeat (fail_if_success (with_reducible refine wpAny_bind (m := callSpecialIfBound? (.ref x) (Str.ofString "__eq__") [b]) ?_)
            first | with_reducible refine wpAny_cRoomFor hu1 ?_ | lk)
    refine wpAny_bind (m := callSpecialIfBound? (.ref x) (Str.ofString "__eq__") [b]) (ifBound_K X I hse hf ?_)
    refine wpAny_mono h (fun v s' hv => ?_) fun _ _ e => e
    obtain ⟨k, rfl, hq⟩ := hv
    refine wpAny_bind (m := truthy (.bool k)) (wpAny_truthy_bool ?_)
    exact wpAny_pure (wpAny_pure ⟨!k, rfl, hq⟩)
  split
  · refine wpAny_bind ?_
    rw [ne_bind]
    refine wpAny_pure (wpAny_pure (wpAny_mono fin (fun r s' hr => ?_) fun _ _ e => e))
    obtain ⟨k, rfl, hq⟩ := hr
    exact wpAny_pure hq
  · refine wpAny_tryCatch (wpAny_bind ?_)
    rw [ne_bind]
    refine wpAny_pure (wpAny_pure (wpAny_mono fin (fun r s' hr => ?_) fun _ _ e => e))
    obtain ⟨k, rfl, hq⟩ := hr
    exact wpAny_pure hq
end
section
open PySem.W
variable {prog : Program} {w : World} {A : Around} {E : Value → Shared → Prop} {s : Shared} {K : Frag} {x C f : Addr} {ox : Obj} {od : Option Obj} {b tb : Value}
theorem ne_cmp {Q : Value → Shared → Prop} (hu : A.units + 1 < cLine) (X : K.In s.heap) (I : InstAt s.heap x ox C od) (hb : Looks (model prog w) s.heap (typeOf b) tb) (hn : notFirst K C tb = true)
    (hsn : findIn K (.ref C) "__ne__" = some (some (.builtin "object.__ne__"))) (hse : findIn K (.ref C) "__eq__" = some (some (.ref f))) (hf : isFn K (.ref f) = true) (hm : mroIn K C (.type "object") = some true)
    (h : wpAny (model prog w) A.in1 (call (.ref f) [.ref x, b]) (fun v s' => ∃ k, v = .bool k ∧ Q (.bool (!k)) s') E s) : wpAny (model prog w) A (richCompare .NotEq (.ref x) b) Q E s := by
  have one : wpAny (model prog w) A (tryCompare (.ref x) (cmpInfo .NotEq).2.1 b) (fun r s' => ∃ v, r = some v ∧ Q v s') E s :=
    ne_try hu X I hsn hse hf hm (wpAny_mono h (fun v s' hv => by obtain ⟨k, rfl, hq⟩ := hv; exact ⟨k, rfl, _, rfl, hq⟩) fun _ _ e => e)
  unfold richCompare
  simp only [oneThing_ref]
  refine wpAny_holding (wpAny_bind (wpAny_cRoomFor (Nat.lt_of_succ_lt hu) ?_))
  refine wpAny_bind (I.type.here (wpAny_bind (hb.here ?_)))
  split
  · rename_i q
    have e : subIn K tb (.ref C) = some false := by
      rcases Bool.or_eq_true_iff.mp hn with e | e
      · rw [beq_iff_eq.mp e] at q; simp at q
      · exact beq_iff_eq.mp e
    refine wpAny_bind ((looks_subIn X e).here ?_)
    simp only [Bool.false_eq_true, if_false]
    refine wpAny_bind (wpAny_mono one (fun r s' z => ?_) fun _ _ e => e)
    obtain ⟨v, rfl, hq⟩ := z
    exact wpAny_pure hq
  · refine wpAny_bind (wpAny_pure ?_)
    simp only [Bool.false_eq_true, if_false]
    refine wpAny_bind (wpAny_mono one (fun r s' z => ?_) fun _ _ e => e)
    obtain ⟨v, rfl, hq⟩ := z
    exact wpAny_pure hq
end

section
variable {prog : Program} {w : World}
/-- tuple == tuple, whatever the items' own == does -/
theorem tuple_eqW (l b : Addr) (items items2 : Array Value) (n n2 : Nat) (dd dd2 : Option Addr) (sl sl2 : Array (Option Value)) (J : Nat → Shared → Prop) :
    MeetsIn prog w (Builtin.«tuple.__eq__» ⟨[.ref l, .ref b], []⟩)
      (fun A R s => s.heap.get? l = some { cls := .type "tuple", dict := dd, data := .seq items n, slots := sl } ∧ s.heap.get? b = some { cls := .type "tuple", dict := dd2, data := .seq items2 n2, slots := sl2 } ∧ J 0 s ∧
        (∀ j s' (h1 : j < items.size) (h2 : j < items2.size), J j s' → wpAny (model prog w) A.in1 (eqBool items[j] items2[j]) (fun k s'' => if k = true then J (j + 1) s'' else R (.ok (.ret (.bool false))) s'') (fun e s'' => R (.error e) s'') s') ∧
        ∀ s', J (min items.size items2.size) s' → R (.ok (.ret (.bool (items.size == items2.size)))) s') :=
  .of_wp fun A R s h => by
    obtain ⟨hp, g, d, tk, os⟩ := s; obtain ⟨hl, hb, h0, he, h⟩ := h
    have f2 := AutoSeq1.sub_tuple_tuple
    have hZ : (items.toList.zip items2.toList).length = min items.size items2.size := by simp
    wp_walk using wpAny_loadPart' hl, wpAny_loadPart' hb, wpAny_forIn_list _ (fun rest b s' => b.1 = none ∧ ∃ i, i ≤ min items.size items2.size ∧ rest = (items.toList.zip items2.toList).drop i ∧ J i s') _
    case turn =>
      rintro ⟨y, x⟩ rest b s' ⟨hb', i, hi, hz, hR⟩
      have hlt : i < (items.toList.zip items2.toList).length := by
        rcases Nat.lt_or_ge i (items.toList.zip items2.toList).length with h' | h'
        · exact h'
        · rw [List.drop_of_length_le h'] at hz; cases hz
      have hm : i < min items.size items2.size := hZ ▸ hlt
      have h1 : i < items.size := Nat.lt_of_lt_of_le hm (Nat.min_le_left _ _)
      have h2 : i < items2.size := Nat.lt_of_lt_of_le hm (Nat.min_le_right _ _)
      rw [List.drop_eq_getElem_cons hlt] at hz
      injection hz with hyx hrest
      have hy : y = items[i] := by have := congrArg Prod.fst hyx; simpa using this
      have hx : x = items2[i] := by have := congrArg Prod.snd hyx; simpa using this
      subst hy hx
      refine wpAny_bind (wpAny_mono (he i s' h1 h2 hR) (fun k s2 hk => ?_) fun _ _ x => x)
      obtain ⟨hp2, g2, d2, tk2, os2⟩ := s2
      cases k with
      | true =>
        rw [if_pos rfl] at hk
        wp_walk
        exact ⟨rfl, i + 1, hm, hrest, hk⟩
      | false =>
        rw [if_neg Bool.false_ne_true] at hk
        wp_walk
        exact ⟨_, rfl, hk⟩
    case fin =>
      rintro ⟨b1, b2⟩ s' ⟨hb', i, hi, hz, hR⟩
      simp only at hb'
      subst hb'
      have hge : min items.size items2.size ≤ i := by
        rcases Nat.lt_or_ge i (items.toList.zip items2.toList).length with h' | h'
        · rw [List.drop_eq_getElem_cons h'] at hz; cases hz
        · exact hZ ▸ h'
      have : i = min items.size items2.size := Nat.le_antisymm hi hge
      subst this
      obtain ⟨hp2, g2, d2, tk2, os2⟩ := s'
      wp_walk
      exact ⟨_, rfl, by simpa [Builtin.Tuple.tupleCompareSizes] using h _ hR⟩
    case h =>
      exact ⟨rfl, 0, Nat.zero_le _, rfl, h0⟩
/-- tuple != tuple, whatever the items' own == does -/
theorem tuple_neW (l b : Addr) (items items2 : Array Value) (n n2 : Nat) (dd dd2 : Option Addr) (sl sl2 : Array (Option Value)) (J : Nat → Shared → Prop) :
    MeetsIn prog w (Builtin.«tuple.__ne__» ⟨[.ref l, .ref b], []⟩)
      (fun A R s => s.heap.get? l = some { cls := .type "tuple", dict := dd, data := .seq items n, slots := sl } ∧ s.heap.get? b = some { cls := .type "tuple", dict := dd2, data := .seq items2 n2, slots := sl2 } ∧ J 0 s ∧
        (∀ j s' (h1 : j < items.size) (h2 : j < items2.size), J j s' → wpAny (model prog w) A.in1 (eqBool items[j] items2[j]) (fun k s'' => if k = true then J (j + 1) s'' else R (.ok (.ret (.bool true))) s'') (fun e s'' => R (.error e) s'') s') ∧
        ∀ s', J (min items.size items2.size) s' → R (.ok (.ret (.bool (!(items.size == items2.size))))) s') :=
  .of_wp fun A R s h => by
    obtain ⟨hp, g, d, tk, os⟩ := s; obtain ⟨hl, hb, h0, he, h⟩ := h
    have f2 := AutoSeq1.sub_tuple_tuple
    have hZ : (items.toList.zip items2.toList).length = min items.size items2.size := by simp
    wp_walk using wpAny_loadPart' hl, wpAny_loadPart' hb, wpAny_forIn_list _ (fun rest b s' => b.1 = none ∧ ∃ i, i ≤ min items.size items2.size ∧ rest = (items.toList.zip items2.toList).drop i ∧ J i s') _
    case turn =>
      rintro ⟨y, x⟩ rest b s' ⟨hb', i, hi, hz, hR⟩
      have hlt : i < (items.toList.zip items2.toList).length := by
        rcases Nat.lt_or_ge i (items.toList.zip items2.toList).length with h' | h'
        · exact h'
        · rw [List.drop_of_length_le h'] at hz; cases hz
      have hm : i < min items.size items2.size := hZ ▸ hlt
      have h1 : i < items.size := Nat.lt_of_lt_of_le hm (Nat.min_le_left _ _)
      have h2 : i < items2.size := Nat.lt_of_lt_of_le hm (Nat.min_le_right _ _)
      rw [List.drop_eq_getElem_cons hlt] at hz
      injection hz with hyx hrest
      have hy : y = items[i] := by have := congrArg Prod.fst hyx; simpa using this
      have hx : x = items2[i] := by have := congrArg Prod.snd hyx; simpa using this
      subst hy hx
      refine wpAny_bind (wpAny_mono (he i s' h1 h2 hR) (fun k s2 hk => ?_) fun _ _ x => x)
      obtain ⟨hp2, g2, d2, tk2, os2⟩ := s2
      cases k with
      | true =>
        rw [if_pos rfl] at hk
        wp_walk
        exact ⟨rfl, i + 1, hm, hrest, hk⟩
      | false =>
        rw [if_neg Bool.false_ne_true] at hk
        wp_walk
        exact ⟨_, rfl, hk⟩
    case fin =>
      rintro ⟨b1, b2⟩ s' ⟨hb', i, hi, hz, hR⟩
      simp only at hb'
      subst hb'
      have hge : min items.size items2.size ≤ i := by
        rcases Nat.lt_or_ge i (items.toList.zip items2.toList).length with h' | h'
        · rw [List.drop_eq_getElem_cons h'] at hz; cases hz
        · exact hZ ▸ h'
      have : i = min items.size items2.size := Nat.le_antisymm hi hge
      subst this
      obtain ⟨hp2, g2, d2, tk2, os2⟩ := s'
      wp_walk
      exact ⟨_, rfl, by simpa [Builtin.Tuple.tupleCompareSizes, bne] using h _ hR⟩
    case h =>
      exact ⟨rfl, 0, Nat.zero_le _, rfl, h0⟩
end
end DL

namespace DL
open PySem L2
variable {g : G} {Z F F' H H' : Hp} {W : WX} {σ : St} {ρ : Env} {st : S} {X : Cx} {e e1 e2 : Expr} {pos : Pos}
/-! ### operators that run code -/
abbrev PM := D → D → M Ex D
def rM (g : G) (p : PM) : R2 := fun x y H Q => ∃ Z F st dx dy, Sim g Z st F H ∧ RelD g F dx x ∧ RelD g F dy y ∧ p dx dy st (Res g (RelD g) Z F Q) (fun _ _ => False)
def op2M (p : PM) (a b : Env → M Ex D) : Env → M Ex D := fun ρ => bindM (a ρ) fun x => bindM (b ρ) fun y => noX (p x y)
class MP (p : PM) : Prop where
  mono : ∀ x y, Mono (p x y)
theorem mono_op2M {p : PM} {a b : Env → M Ex D} [MP p] (ha : ∀ ρ, Mono (a ρ)) (hb : ∀ ρ, Mono (b ρ)) (ρ : Env) : Mono (op2M p a b ρ) := mono_bind (ha ρ) fun _ => mono_bind (hb ρ) fun _ => mono_noX (MP.mono _ _)
instance {p : PM} {a b : Env → M Ex D} [MP p] [MB a] [MB b] : MB (op2M p a b) := ⟨mono_op2M MB.mono MB.mono⟩
theorem x_op2M {p : PM} {a b : Env → M Ex D} {s : S} {Q : D → S → Prop} {E : Ex → S → Prop} : op2M p a b ρ s Q E = a ρ s (fun x s1 => b ρ s1 (fun y s2 => p x y s2 Q (fun _ _ => False)) E) E := rfl
theorem tX.op2M {p : PM} [MP p] {a b : Env → M Ex D} {Q : VK} (ha : ∀ ρ, Mono (a ρ)) (hb : ∀ ρ, Mono (b ρ)) (h : tX g (RelD g) W (DL.op2M p a b) σ H Q) : tOp (rM g p) (tX g (RelD g) W a) (tX g (RelD g) W b) σ H Q := by
  obtain ⟨Z, F, st, ρ, E, N, q⟩ := h
  refine tX.go N (ha ρ) (fun _ => mono_bind (hb ρ) fun _ => mono_noX (MP.mono _ _)) q fun dx x F st H1 e N rx q => ?_
  refine tX.go (R1 := RelD g) N (hb ρ) (fun _ => mono_noX (MP.mono _ _)) q fun dy y F2 st H2 e2 N ry q => ?_
  exact ⟨Z, F2, st, dx, dy, N.sim, rx.mono e2, ry, q⟩
theorem fe_cmpM {op : CmpOp} {p : PM} [MP p] {a b : Env → M Ex D} (ho : OpR X (compareOp op) (rM g p)) (ha : FE g X W e1 a) (hb : FE g X W e2 b) (hm : behindInMarks op e2 = false) : FE g X W (.Compare e1 [op] [e2] pos) (op2M p a b) :=
  ⟨PE.imp (pe_cmpR ho ha.pe hb.pe hm) fun _ _ _ q => tX.op2M ha.mono hb.mono q, mono_op2M ha.mono hb.mono⟩
theorem ft_cmpM {op : CmpOp} {p : PM} [MP p] {a b : Env → M Ex D} (ho : OpR X (compareOp op) (rM g p)) (ha : FE g X W e1 a) (hb : FE g X W e2 b) (hm : behindInMarks op e2 = false) : FT g X W (.Compare e1 [op] [e2] pos) (liftT (op2M p a b)) :=
  ⟨PT.imp (pt_cmpR ho ha.pe hb.pe hm) fun _ _ _ q => tX.op2M ha.mono hb.mono (tX.test (mono_op2M ha.mono hb.mono) q), mono_liftT (mono_op2M ha.mono hb.mono)⟩
theorem takes_never : Takes X WN := fun u s' ⟨a, B, sI, pins, σ, H, cls, d, e, I, nb, up, sky, na, os, ag, w⟩ => w.elim
/-- what the own == of the class c leans on -/
structure EqC (g : G) (cs : List Str) (c : Str) (f : Addr) : Prop where
  mem : c ∈ cs
  eq : PySem.W.findIn g.K (.ref (g.cl c)) "__eq__" = some (some (.ref f))
  fn : PySem.W.isFn g.K (.ref f) = true
  ne : PySem.W.findIn g.K (.ref (g.cl c)) "__ne__" = some (some (.builtin "object.__ne__"))
  mro : PySem.W.mroIn g.K (g.cl c) (.type "object") = some true
  nfb : ∀ t ∈ baseTys, PySem.W.notFirst g.K (g.cl c) (.type t) = true
  nfc : ∀ c' ∈ cs, PySem.W.notFirst g.K (g.cl c) (.ref (g.cl c')) = true
/-- of what type the other side is -/
def tyAny (cs : List Str) (st : S) (y : D) : Option Unit := match tyS st y with
  | some _ => some ()
  | none => (clsS st y).bind fun c => if c ∈ cs then some () else none
theorem tyAny_ok {cs : List Str} {c : Str} {f : Addr} {y : D} {v : V} (o : OwnTy g cs) (q : EqC g cs c f) (sim : Sim g Z st F H) (r : RelD g F y v) (h : tyAny cs st y = some ()) : ∃ t, TyX g.K H v t ∧ PySem.W.notFirst g.K (g.cl c) t = true := by
  unfold tyAny at h
  split at h
  · rename_i t ht
    exact ⟨_, sim.tyS r ht, q.nfb t (tyS_base ht)⟩
  · obtain ⟨c', h1, h2⟩ := Option.bind_eq_some_iff.mp h
    split at h2
    · rename_i hc
      obtain ⟨a, dx, fs, rfl, ha⟩ := sim.clsS r h1
      exact ⟨_, o.ins c' hc ha, q.nfc c' hc⟩
    · cases h2
def isC (st : S) (c : Str) (x : D) : Option Unit := match clsS st x with
  | some c' => if c' = c then some () else none
  | none => none
theorem isC_ok {c : Str} {x : D} {v : V} (sim : Sim g Z st F H) (r : RelD g F x v) (h : isC st c x = some ()) : ∃ a dx fs, v = .ref a ∧ H a = some (.ins (g.cl c) dx fs) := by
  unfold isC at h
  split at h
  · rename_i c' hc
    split at h
    · rename_i e; subst e; exact sim.clsS r hc
    · cases h
  · cases h
/-- x == y (b: the answer turned) -/
def ownM (cs : List Str) (c : Str) (m : Fn) (neg : Bool) : PM := fun x y => bindM (seeM fun st => isC st c x) fun _ => bindM (seeM fun st => tyAny cs st y) fun _ => bindM (m [x, y] []) fun r => bindM (asB r) fun k => pureM (.bl (k ^^ neg))
instance {cs : List Str} {c : Str} {m : Fn} {neg : Bool} [MF m] : MP (ownM cs c m neg) := ⟨fun x y => mono_bind (mono_see _) fun _ => mono_bind (mono_see _) fun _ => mono_bind (MF.mono _ _) fun r => mono_bind (mono_asB r) fun _ => mono_pure _⟩
theorem x_ownM {cs : List Str} {c : Str} {m : Fn} {neg : Bool} {x y : D} {s : S} {Q : D → S → Prop} {E : Ex → S → Prop} : ownM cs c m neg x y s Q E = ∃ v, isC s c x = some v ∧ ∃ v, tyAny cs s y = some v ∧ m [x, y] [] s (fun r s1 => asB r s1 (fun k s2 => Q (.bl (k ^^ neg)) s2) E) E := rfl
section
variable {cs : List Str} {c : Str} {f : Addr} {k : Nat} {m : Fn}
/-- the own == is run -/
theorem run_own {A : Around} {pins : List (Addr × Obj)} {s : Shared} {Q : VK} {a : Addr} {y : V} {u : Value} {dx dy : D} {R : Bool → S → Prop} (C : Cal g X.prog X.w X.K X.mg X.base k f [] m) (hM : MonoF m) (hr : Room k A) (ev : Env0 X.prog X.w X.K X.mg X.base A X.stack s H) (I : Inv X pins σ H s) (sim : Sim g Z st F H) (rx : RelD g F dx (.ref a)) (ry : RelD g F dy y) (ryu : RelV y u)
    (q : m [dx, dy] [] st (fun r s1 => asB r s1 (fun k s2 => R k s2) (fun _ _ => False)) (fun _ _ => False)) (h : ∀ k s1 F' H', R k s1 → Same F F' → Sim g Z s1 F' H' → Q (.bl k) H') :
    wpAny (model X.prog X.w) A (call (.ref f) [.ref a, u]) (fun v s' => ∃ k H', v = .bool k ∧ Inv X pins σ H' s' ∧ Q (.bl k) H') X.xe s := by
  have sp : spK g m [.ref a, y] [] H (fun v H' => ∃ k, v = .bl k ∧ Q (.bl k) H') (WE WN σ) := by
    refine ⟨Z, F, st, [dx, dy], [], sim, .cons rx (.one ry), .nil, hM _ _ _ _ _ _ _ (fun r s1 z v F' H' e sim' rv => ?_) (fun _ _ z => z.elim) q⟩
    obtain ⟨k, rfl, z⟩ := asB_inv z
    unfold RelD at rv
    exact ⟨k, rv, h k s1 F' H' z e sim'⟩
  have rr : Vals [V.ref a, y] [Value.ref a, u] := .cons rfl (.cons ryu .nil)
  refine wpAny_call (codeAny_mono (C A X.stack s H [.ref a, u] [] [.ref a, y] [] _ _ hr ev rr .nil sp) fun r s' hq => ?_)
  cases r with
  | error e => exact passAt takes_never σ pins H s e s' I hq
  | ok fl =>
    cases fl with
    | ret u =>
      obtain ⟨z', H', I', rz, k, ek, qz⟩ := I.after hq
      subst ek
      cases (show u = Value.bool k from rz)
      exact ⟨k, H', rfl, I', qz⟩
    | next => exact False.elim hq
    | brk => exact False.elim hq
    | cont => exact False.elim hq
theorem od_own (hK : X.K = g.K) (o : OwnTy g cs) (q : EqC g cs c f) (C : Cal g X.prog X.w X.K X.mg X.base k f [] m) (hM : MonoF m) (hr : Room k X.A) : OpR X (compareOp .Eq) (rM g (ownM cs c m false)) := by
  intro pins s σ H x y v u Q I rx ry ⟨Z, F, st, dx, dy, sim, hx, hy, _, h1, _, h2, h3⟩
  obtain ⟨a, dd, fs, rfl, ha⟩ := isC_ok sim hx h1
  cases (show v = Value.ref a from rx)
  obtain ⟨mA, O, rr, _⟩ := ins_get I.hok ha
  obtain ⟨od, J, _⟩ := O.look
  obtain ⟨t, ty, hn⟩ := tyAny_ok o q sim hy h2
  rw [← hK] at ty hn
  obtain ⟨P, Z2, p, _⟩ := kit_of I ry ty
  obtain ⟨fm, hF⟩ := I.fr
  show wpAny _ _ (richCompare .Eq (.ref a) u) _ _ _
  refine PySem.W.cmp_K (op := .Eq) (tb := t) hr.units0 hF I.ok.mod.kin J (Z2.ty _ _ I.kIn p) hn (by rw [hK]; exact q.eq) (by rw [hK]; exact q.fn) ?_
  refine wpAny_mono (run_own (Q := Q) C hM hr I.env0 I sim hx hy ry h3 fun k s1 F' H' z e sim' => ?_) (fun v s' ⟨k, H', e, I', z⟩ => ?_) fun _ _ x => x
  · have := z (.bl (k ^^ false)) F' H' e sim' relD_bl
    simpa using this
  · subst e
    exact ⟨.bl k, H', I', rfl, z⟩
theorem od_ownN (hK : X.K = g.K) (o : OwnTy g cs) (q : EqC g cs c f) (C : Cal g X.prog X.w X.K X.mg X.base k f [] m) (hM : MonoF m) (hr : Room (k + 1) X.A) : OpR X (compareOp .NotEq) (rM g (ownM cs c m true)) := by
  intro pins s σ H x y v u Q I rx ry ⟨Z, F, st, dx, dy, sim, hx, hy, _, h1, _, h2, h3⟩
  obtain ⟨a, dd, fs, rfl, ha⟩ := isC_ok sim hx h1
  cases (show v = Value.ref a from rx)
  obtain ⟨mA, O, rr, _⟩ := ins_get I.hok ha
  obtain ⟨od, J, _⟩ := O.look
  obtain ⟨t, ty, hn⟩ := tyAny_ok o q sim hy h2
  rw [← hK] at ty hn
  obtain ⟨P, Z2, p, _⟩ := kit_of I ry ty
  show wpAny _ _ (richCompare .NotEq (.ref a) u) _ _ _
  have hu : X.A.units + 1 < cLine := by have := hr.units; omega
  refine ne_cmp (tb := t) hu I.kIn J (Z2.ty _ _ I.kIn p) hn (by rw [hK]; exact q.ne) (by rw [hK]; exact q.eq) (by rw [hK]; exact q.fn) (by rw [hK]; exact q.mro) ?_
  refine wpAny_mono (run_own (Q := fun v H' => ∃ k, v = V.bl k ∧ Q (V.bl !k) H') C hM hr.in1 I.env0.in1 I sim hx hy ry h3 fun k s1 F' H' z e sim' => ?_) (fun v s' ⟨k, H', e, I', k', ek, z⟩ => ?_) fun _ _ x => x
  · have := z (.bl (k ^^ true)) F' H' e sim' relD_bl
    exact ⟨k, rfl, by simpa using this⟩
  · subst e
    cases ek
    exact ⟨k, rfl, .bl (!k), H', I', rfl, z⟩
end
end DL

namespace DL
def runs_D16 := And.intro @x_op2M (@x_ownM)
end DL
namespace DL
open PySem L2
variable {g : G} {Z F F' H H' : Hp} {W : WX} {σ : St} {ρ : Env} {st : S} {X : Cx} {e e1 e2 : Expr} {es : List Expr} {pos p : Pos}
/-! ### dicts of the module -/
def tabD (c : Str) (t : List (Str × D)) : P2 := fun x y _ => match x, y with
  | .cst c', .str z => if c' = c then t.lookup z else none
  | _, _ => none
def tabB (K : PySem.W.Frag) (a : Addr) (t : List (Str × D)) : Bool := t.all fun q => match PySem.W.nsIn K a q.1 with
  | some (some u) => relW K q.2 u
  | _ => false
structure TabOk (g : G) (w : World) (c : Str) (t : List (Str × D)) : Prop where
  dict : ∃ es n, KDict g.K w (g.cs c) es n
  vals : tabB g.K (g.cs c) t = true
theorem lookup_mem {z : Str} {d : D} : ∀ {t : List (Str × D)}, t.lookup z = some d → (z, d) ∈ t
  | [], h => by cases h
  | (a, b) :: t, h => by
    rw [List.lookup_cons] at h
    by_cases e : (z == a) = true
    · rw [e] at h
      have h1 : z = a := by simpa using e
      cases h
      rw [h1]
      exact List.mem_cons_self ..
    · rw [Bool.not_eq_true] at e
      rw [e] at h
      exact List.mem_cons_of_mem _ (lookup_mem h)
theorem ixr_tab {c : Str} {t : List (Str × D)} (hK : X.K = g.K) (T : TabOk g X.w c t) : IxR X (r2 g (tabD c t)) := by
  intro value slice pins s σ H x y v u Q I rx ry ⟨Z, F, st, dx, dy, d, sim, hx, hy, e, q⟩ hs
  refine ix_kdict value slice pins s σ H x y v u Q I rx ry ?_ hs
  unfold tabD at e
  split at e
  · rename_i c' z
    split at e
    · rename_i ec
      subst ec
      unfold RelD at hx hy
      have h2 := List.all_eq_true.mp T.vals (z, d) (lookup_mem e)
      obtain ⟨es, n, D⟩ := T.dict
      cases e2 : PySem.W.nsIn g.K (g.cs c') z with
      | none => simp only [e2] at h2; cases h2
      | some r =>
        cases r with
        | none => simp only [e2] at h2; cases h2
        | some u0 =>
          simp only [e2] at h2
          obtain ⟨r1, r2⟩ := relW_ok (g := g) rfl h2
          rw [hK]
          exact ⟨_, z, _, hx, hy, ⟨es, n, u0, D.at_, D.lit, e2, r1⟩, q _ F H (Same.refl _) sim (r2 F)⟩
    · cases e
  · cases e
theorem tab_eq {c z : Str} {t : List (Str × D)} {s : S} : tabD c t (.cst c) (.str z) s = t.lookup z := by unfold tabD; simp
/-! ### *args -/
def starF (n : Nat) (m : List D → M Ex D) : Fn := fun ds es => match es with
  | [] => if n ≤ ds.length ∧ ds.length ≤ n + sizeLine then m (ds.take n ++ [.tup (ds.drop n)]) else failM
  | _ => failM
instance {n : Nat} {m : List D → M Ex D} [MD m] : MF (starF n m) := ⟨fun ds es => by
  cases es with
  | nil => exact mono_ite (MD.mono _) mono_fail
  | cons _ _ => exact mono_fail⟩
theorem relDs_take {ds : List D} {vs : List V} (n : Nat) : RelDs g F ds vs → RelDs g F (ds.take n) (vs.take n) ∧ RelDs g F (ds.drop n) (vs.drop n) := by
  induction ds generalizing vs n with
  | nil => intro r; cases r.nil_inv; simp; exact .nil
  | cons d ds ih =>
    intro r
    obtain ⟨v, vs, rfl, r1, r2⟩ := r.cons_inv
    cases n with
    | zero => simp; exact ⟨.nil, .cons r1 r2⟩
    | succ n => simp only [List.take_succ_cons, List.drop_succ_cons]; exact ⟨.cons r1 (ih n r2).1, (ih n r2).2⟩
theorem fn_okS {P : Program} {w : World} {K : PySem.W.Frag} {mg : Str → Option Value} {base : Heap} {x qual pv : Str} {params : Arguments} {body : List Stmt} {scope : Scope} {dvs : List V} {kws : List (Str × V)} {f : Addr} {fd : FuncData} {N ps : List Str} {k n : Nat} {b : Env → MS} [MB b]
    (Fu : FunD K x qual params body scope dvs kws f fd) (Sc : FnScope N (ps ++ [pv]) scope) (hn : N.length = n)
    (hbd : ∀ (dV kV doc pm : Value) (an : Option Addr) (cdv ct : Value), DflV K dV dvs → KwdV K kV kws → ∀ (us rest : List Value), us.length = ps.length → bindArgs (PySem.W.fnOf x qual params body scope dV kV doc pm an cdv ct) ⟨us ++ rest, []⟩ = (newTuple rest >>= fun t => pure (ps.zip us ++ [(pv, t)])))
    (hb : ∀ (cdv : Value) (A : Around) (outer : List PySem.Env) (s : Shared) (H : Hp) (E : XK), Room k (A.deeper (PyProof.Rows.envOfC qual scope s.heap.objs.size f cdv)) → Takes (cxOf (L2.CX P w) P w K mg base N qual scope f cdv A outer s H E) (fun u d _ H => E u d H) →
      FB g (cxOf (L2.CX P w) P w K mg base N qual scope f cdv A outer s H E) (fun u d _ H => E u d H) body b) : Cal g P w K mg base (k + 1) f [] (starF ps.length (defM n b)) := by
  obtain ⟨oc, od, dV, kV, doc, pm, an, cdv, ct, osl, rfl, lk, hcd, hd1, hd2⟩ := Fu.ex
  have R := StX.fn_star (k := k) (P := P) (w := w) (mg := mg) (base := base) (sp := spD g (ps ++ [pv]).length (defM n b)) lk hcd Sc StX.cxUp (hbd dV kV doc pm an cdv ct hd1 hd2) fun A outer s H vs Q E hr ⟨Z, F, st, ds, hl, sim, r, q⟩ => ⟨_, (hb cdv A outer s H E hr (takes_of rfl rfl rfl rfl)).ps, by
    refine ⟨Z, F, st, _, fun x _ s => ∀ u d F' H', Same F F' → Sim g Z s F' H' → RelEx g F' u d x → E u d H', ⟨sim, renv_start r n hn, fun x ρ st' F' H' u d σ e sim' _ rx h => h u d F' H' e sim' rx⟩, ?_⟩
    refine (hb cdv A outer s H E hr (takes_of rfl rfl rfl rfl)).mono _ _ _ _ _ _ (fun fl s' h => ?_) (fun _ _ h => h) q
    cases fl with
    | nx ρ' => exact fun σ' F' H' e sim' _ => h .non F' H' e sim' relD_non
    | rt d => exact h
    | bk _ => exact h.elim
    | ct _ => exact h.elim⟩
  intro A outer s H us ws vs zs Q E room env r rz ⟨Z, F, st, ds, es, sim, h1, h2, q⟩
  cases es with
  | cons _ _ => exact q.elim
  | nil =>
  have hz := h2.nil_inv
  subst hz
  cases rz
  replace q : (if ps.length ≤ ds.length ∧ ds.length ≤ ps.length + sizeLine then defM n b (ds.take ps.length ++ [.tup (ds.drop ps.length)]) else failM) st (Res g (RelD g) Z F Q) (excD g Z F E) := q
  by_cases hj : ps.length ≤ ds.length ∧ ds.length ≤ ps.length + sizeLine
  · rw [if_pos hj] at q
    have hl := h1.len
    obtain ⟨t1, t2⟩ := relDs_take ps.length h1
    refine R A outer s H us vs Q E room env r ⟨vs.take ps.length, vs.drop ps.length, (List.take_append_drop _ _).symm, by rw [List.length_take]; omega, by rw [List.length_drop]; omega, fun p hp => ?_⟩
    have sm := same_upd (o := .tup (vs.drop ps.length)) (sim.free hp).1
    refine ⟨Z, _, st, ds.take ps.length ++ [.tup (ds.drop ps.length)], by simp; omega, sim.new hp, (t1.mono sm).append (.one (by unfold RelD; exact ⟨p, _, rfl, SqT.of upd_same, t2.mono sm⟩)), ?_⟩
    refine mono_defM MB.mono _ _ _ _ _ _ (fun _ _ z => z.mono sm) (fun _ _ z u d F' H' e => z u d F' H' (sm.trans e)) q
  · rw [if_neg hj] at q; exact q.elim
/-- *e among the arguments -/
def argsS (m : Env → M Ex D) (n : Env → M Ex (List D)) : Env → M Ex (List D) := fun ρ => bindM (m ρ) fun d => bindM (seeM fun st => seqD st d) fun xs => bindM (n ρ) fun ys => pureM (xs ++ ys)
theorem x_argsS {m : Env → M Ex D} {n : Env → M Ex (List D)} {s : S} {Q : List D → S → Prop} {E : Ex → S → Prop} : argsS m n ρ s Q E = m ρ s (fun d s1 => ∃ xs, seqD s1 d = some xs ∧ n ρ s1 (fun ys s2 => Q (xs ++ ys) s2) E) E := rfl
instance {m : Env → M Ex D} {n : Env → M Ex (List D)} [MB m] [MB n] : MB (argsS m n) := ⟨fun ρ => mono_bind (MB.mono ρ) fun _ => mono_bind (mono_see _) fun _ => mono_bind (MB.mono ρ) fun _ => mono_pure _⟩
theorem seqD_ok {d : D} {v : V} {xs : List D} (sim : Sim g Z st F H) (r : RelD g F d v) (h : seqD st d = some xs) : ∃ a vs, v = .ref a ∧ (SqT g.K H a vs ∨ SqL g.K H a vs) ∧ RelDs g F xs vs := by
  cases d with
  | tup ds =>
    cases (Option.some.inj h)
    unfold RelD at r
    obtain ⟨a, us, rfl, h2, h3⟩ := r
    exact ⟨a, us, rfl, .inl (sqT_mono sim.same h2), h3⟩
  | lst ds =>
    cases (Option.some.inj h)
    unfold RelD at r
    obtain ⟨a, us, rfl, h2, h3⟩ := r
    exact ⟨a, us, rfl, .inr (SqL.of (sim.same _ _ h2)), h3⟩
  | ref a =>
    unfold RelD at r
    subst r
    obtain ⟨us, h2, h3⟩ := sim.lst h
    exact ⟨a, us, rfl, .inr (SqL.of h2), h3⟩
  | _ => cases h
theorem fa_star {m : Env → M Ex D} {n : Env → M Ex (List D)} (hK : X.K = g.K) (h : FE g X W e m) (k : FA g X W es n) (hs : starEach (.Starred e p :: es) X.env = (true, eval e X.env) :: starEach es X.env := by rfl) : FA g X W (.Starred e p :: es) (argsS m n) :=
  ⟨PA.imp (StX.pa_star h.pe k.pa hs) fun _ _ _ ⟨Z, F, st, ρ, E, N, q⟩ => tX.go N (h.mono ρ) (fun _ => mono_bind (mono_see _) fun _ => mono_bind (k.mono ρ) fun _ => mono_pure _) q fun d v F st H1 e N r q => by
    obtain ⟨xs, hx, q⟩ := q
    obtain ⟨a, vs, rfl, hv, rv⟩ := seqD_ok N.sim r hx
    rw [hK]
    exact ⟨a, vs, rfl, hv, tX.go (R1 := RelDs g) N (k.mono ρ) (fun _ => mono_pure _) q fun ds vs F2 st2 H2 e2 N2 r2 q2 => tX.done (R := RelDs g) N2 ((rv.mono e2).append r2) q2⟩,
  fun ρ => mono_bind (h.mono ρ) fun _ => mono_bind (mono_see _) fun _ => mono_bind (k.mono ρ) fun _ => mono_pure _⟩
section
variable {k i : Nat} {f : Addr} {m : Fn} {x : Str} {a : Env → M Ex (List D)} {c : Str} {fin : D → M Ex D}
theorem spK_of {E : Ex → Env → S → Prop} {Q : VK} (hM : MonoF m) (ha : FA g X W es a) (N : Now g W Z σ H F ρ st E) (q : callE m a argsN ρ st (Res g (RelD g) Z F Q) (fun x s => E x ρ s)) : tX g (RelDs g) W a σ H fun vs H1 => spK g m vs [] H1 Q (WE W σ) :=
  tX.go (R1 := RelDs g) N (ha.mono ρ) (fun _ => mono_bind (mono_pure _) fun _ => hM _ _) q fun ds vs F2 st H2 e2 N r2 q => ⟨Z, F2, st, ds, [], N.sim, r2, .nil, hM _ _ _ _ _ _ _ (fun _ _ z => z) (fun _ _ z => N.exc z) q⟩
/-- C(e, .., *y) -/
theorem fe_makeS (hf : Fin g fin) (Mk : Mk X.K (g.cl c) f) (C : Cal g X.prog X.w X.K X.mg X.base k f [] m) (hM : MonoF m) (hr : Room (k + 1) X.A) (tk : Takes X W) (hg : Gl X x) (hm : X.mg x = some (.ref (g.cl c))) (ha : FA g X W (e :: es) a)
    (hdb : (x == ("__debug__" : Str)) = false := by decide) (he : starEach (e :: es) X.env = (false, eval e X.env) :: starEach es X.env := by rfl) (hst : (backTo pos (starEach es X.env)).any (·.1) = true := by rfl) :
    FE g X W (.Call (.Name x p) (e :: es) [] pos) (callE (mkM c m fin) a argsN) := by
  have hM2 := mono_mkM (c := c) hM hf.mono
  refine ⟨⟨fun pins s σ H Q I ⟨Z, F, st, ρ, E, N, q⟩ => ?_⟩, mono_callE hM2 ha.mono fun _ => mono_pure _⟩
  refine wpAny_Call_Name_kw (ld_glob I hg hm ?_ hdb)
  refine PySem.W.callWith_S2 (h₀ := X.base) I.ok.mod.kin Mk.kp (thn (ha.pa.run pos pins s σ H _ I (spK_of hM2 ha N q)) fun us s1 ⟨vs, H1, I1, r, q⟩ => ⟨I1.kIn, ?_⟩) he hst
  exact run_mk (ws := []) (ks := []) Mk C hr tk I1 r .nil fun y dx n1 n2 n3 => mkGo hM hf q n1 n2 n3
theorem fe_makeSL (hf : Fin g fin) (Mk : Mk X.K (g.cl c) f) (C : Cal g X.prog X.w X.K X.mg X.base k f [] m) (hM : MonoF m) (hr : Room (k + 1) X.A) (tk : Takes X W) (hN : X.N[i]? = some x) (hv : Vis X.env.scope x) (ha : FA g X W (e :: es) a)
    (hdb : (x == ("__debug__" : Str)) = false := by decide) (hcd : (x == ("__classdict__" : Str)) = false := by decide) (he : starEach (e :: es) X.env = (false, eval e X.env) :: starEach es X.env := by rfl) (hst : (backTo pos (starEach es X.env)).any (·.1) = true := by rfl) :
    FE g X W (.Call (.Name x p) (e :: es) [] pos) (fun ρ => bindM (needM (ρ[i]? = some (some (.cls c)))) fun _ => callE (mkM c m fin) a argsN ρ) := by
  have hM2 := mono_mkM (c := c) hM hf.mono
  refine ⟨⟨fun pins s σ H Q I ⟨Z, F, st, ρ, E, N, hi, q⟩ => ?_⟩, fun ρ => mono_bind (mono_need _) fun _ => mono_callE hM2 ha.mono (fun _ => mono_pure _) ρ⟩
  obtain ⟨v, e', rv⟩ := N.env.2 i _ hi
  unfold RelD at rv
  subst rv
  refine wpAny_Call_Name_kw (thn ((pe_var (pos := p) hN hv hdb hcd).run pins s σ H (fun v H' => v = .ref (g.cl c) ∧ H' = H) I ⟨_, e', rfl, rfl⟩) fun u s0 ⟨v, H0, I0, rv, ev, eH⟩ => ?_)
  subst ev
  subst eH
  cases (show u = Value.ref (g.cl c) from rv)
  refine PySem.W.callWith_S2 (h₀ := X.base) I0.ok.mod.kin Mk.kp (thn (ha.pa.run pos pins s0 σ H0 _ I0 (spK_of hM2 ha N q)) fun us s1 ⟨vs, H1, I1, r, q⟩ => ⟨I1.kIn, ?_⟩) he hst
  exact run_mk (ws := []) (ks := []) Mk C hr tk I1 r .nil fun y dx n1 n2 n3 => mkGo hM hf q n1 n2 n3
end
end DL

namespace DL
def runs_D17 := And.intro @tab_eq (@x_argsS)
end DL
namespace DL
open PySem L2
variable {g : G} {Z F F' H H' : Hp} {W : WX} {σ : St} {ρ : Env} {st : S} {X : Cx} {e e1 e2 : Expr} {es : List Expr} {pos p : Pos}
/-! ### data that say all of their object -/
mutual
def plainD (cs : List Str) : D → Bool
  | .non => true
  | .bl _ => true
  | .int _ => true
  | .str _ => true
  | .tup ds => plainDs cs ds
  | .ins c _ ds => decide (c ∈ cs) && plainDs cs ds
  | _ => false
def plainDs (cs : List Str) : List D → Bool
  | [] => true
  | d :: ds => plainD cs d && plainDs cs ds
end
theorem own_inj {cs : List Str} (o : OwnTy g cs) {c c' : Str} (h : c ∈ cs) (h' : c' ∈ cs) (e : g.cl c = g.cl c') : c = c' := by
  have h1 := o.kit c h c' h'
  have h2 := o.kit c' h' c' h'
  rw [e, h2] at h1
  have := Option.some.inj h1
  have h3 : decide (c' = c) = true := this.symm.trans (decide_eq_true rfl)
  exact (of_decide_eq_true h3).symm
section
variable {pins : List (Addr × Obj)} {s : Shared} {cs : List Str}
theorem ins_no_tup {a C dx : Addr} {fs : List (Str × V)} {vs : List V} (I : Inv X pins σ H s) (h : H a = some (.ins C dx fs)) (t : SqT X.K H a vs) : False := by
  obtain ⟨its, r, ⟨o, e, hc, n, d⟩, _⟩ := I.tuple t
  obtain ⟨mA, O, rr, _⟩ := ins_get I.hok h
  obtain ⟨od, J, _⟩ := O.look
  have e2 := J.at_
  rw [e] at e2
  cases e2
  have e3 := J.cls
  rw [hc] at e3
  cases e3
mutual
theorem relD_inj (hK : X.K = g.K) (o : OwnTy g cs) (I : Inv X pins σ H s) (sim : Same F H) : ∀ {x y : D} {v : V}, plainD cs x = true → plainD cs y = true → RelD g F x v → RelD g F y v → x = y
  | .non, y, v, _, hy, r, q => by
    unfold RelD at r; subst r
    cases y with
    | non => rfl
    | bl _ => unfold RelD at q; cases q
    | int _ => unfold RelD at q; cases q
    | str _ => unfold RelD at q; cases q
    | tup _ => unfold RelD at q; obtain ⟨_, _, z, _⟩ := q; cases z
    | ins _ _ _ => unfold RelD at q; obtain ⟨_, _, _, z, _⟩ := q; cases z
    | _ => cases hy
  | .bl b, y, v, _, hy, r, q => by
    unfold RelD at r; subst r
    cases y with
    | non => unfold RelD at q; cases q
    | bl _ => unfold RelD at q; cases q; rfl
    | int _ => unfold RelD at q; cases q
    | str _ => unfold RelD at q; cases q
    | tup _ => unfold RelD at q; obtain ⟨_, _, z, _⟩ := q; cases z
    | ins _ _ _ => unfold RelD at q; obtain ⟨_, _, _, z, _⟩ := q; cases z
    | _ => cases hy
  | .int b, y, v, _, hy, r, q => by
    unfold RelD at r; subst r
    cases y with
    | non => unfold RelD at q; cases q
    | bl _ => unfold RelD at q; cases q
    | int _ => unfold RelD at q; cases q; rfl
    | str _ => unfold RelD at q; cases q
    | tup _ => unfold RelD at q; obtain ⟨_, _, z, _⟩ := q; cases z
    | ins _ _ _ => unfold RelD at q; obtain ⟨_, _, _, z, _⟩ := q; cases z
    | _ => cases hy
  | .str b, y, v, _, hy, r, q => by
    unfold RelD at r; subst r
    cases y with
    | non => unfold RelD at q; cases q
    | bl _ => unfold RelD at q; cases q
    | int _ => unfold RelD at q; cases q
    | str _ => unfold RelD at q; cases q; rfl
    | tup _ => unfold RelD at q; obtain ⟨_, _, z, _⟩ := q; cases z
    | ins _ _ _ => unfold RelD at q; obtain ⟨_, _, _, z, _⟩ := q; cases z
    | _ => cases hy
  | .tup ds, y, v, hx, hy, r, q => by
    unfold plainD at hx
    unfold RelD at r
    obtain ⟨a, vs, rfl, h1, h2⟩ := r
    cases y with
    | tup ds' =>
      unfold plainD at hy
      unfold RelD at q
      obtain ⟨a', vs', e, h3, h4⟩ := q
      cases e
      have h5 := sqT_mono sim h1; have h6 := sqT_mono sim h3
      rw [← hK] at h5 h6
      have := I.tuple_inj h5 h6
      subst this
      rw [relDs_inj hK o I sim hx hy h2 h4]
    | ins c ns ds' =>
      unfold RelD at q
      obtain ⟨a', dx, fs, e, h3, _⟩ := q
      cases e
      have h5 := sqT_mono sim h1
      rw [← hK] at h5
      exact (ins_no_tup I (sim _ _ h3) h5).elim
    | non => unfold RelD at q; cases q
    | bl _ => unfold RelD at q; cases q
    | int _ => unfold RelD at q; cases q
    | str _ => unfold RelD at q; cases q
    | _ => cases hy
  | .ins c ns ds, y, v, hx, hy, r, q => by
    unfold plainD at hx
    obtain ⟨hc, hx⟩ := He.ba hx
    unfold RelD at r
    obtain ⟨a, dx, fs, rfl, h1, h0, h2⟩ := r
    cases y with
    | ins c' ns' ds' =>
      unfold plainD at hy
      obtain ⟨hc', hy⟩ := He.ba hy
      unfold RelD at q
      obtain ⟨a', dx', fs', e, h3, h0', h4⟩ := q
      cases e
      rw [h1] at h3
      simp only [Option.some.injEq, HO.ins.injEq] at h3
      obtain ⟨ec, _, ef⟩ := h3
      subst ef
      rw [own_inj o (of_decide_eq_true hc) (of_decide_eq_true hc') ec, relDs_inj hK o I sim hx hy h2 h4, ← h0, ← h0']
    | tup ds' =>
      unfold RelD at q
      obtain ⟨a', vs', e, h3, h4⟩ := q
      cases e
      have h5 := sqT_mono sim h3
      rw [← hK] at h5
      exact (ins_no_tup I (sim _ _ h1) h5).elim
    | non => unfold RelD at q; cases q
    | bl _ => unfold RelD at q; cases q
    | int _ => unfold RelD at q; cases q
    | str _ => unfold RelD at q; cases q
    | _ => cases hy
  | .lst _, _, _, hx, _, _, _ => by cases hx
  | .dic _ _, _, _, hx, _, _, _ => by cases hx
  | .ref _, _, _, hx, _, _, _ => by cases hx
  | .cls _, _, _, hx, _, _, _ => by cases hx
  | .cst _, _, _, hx, _, _, _ => by cases hx
  | .ty _, _, _, hx, _, _, _ => by cases hx
  | .scr, _, _, hx, _, _, _ => by cases hx
theorem relDs_inj (hK : X.K = g.K) (o : OwnTy g cs) (I : Inv X pins σ H s) (sim : Same F H) : ∀ {x y : List D} {v : List V}, plainDs cs x = true → plainDs cs y = true → RelDs g F x v → RelDs g F y v → x = y
  | [], y, v, _, _, r, q => by
    cases r.nil_inv
    cases y with
    | nil => rfl
    | cons _ _ => obtain ⟨_, _, e, _⟩ := q.cons_inv; cases e
  | x :: xs, y, v, hx, hy, r, q => by
    obtain ⟨u, us, rfl, r1, r2⟩ := r.cons_inv
    cases y with
    | nil => cases q.nil_inv
    | cons y ys =>
      obtain ⟨_, _, e, q1, q2⟩ := q.cons_inv
      cases e
      unfold plainDs at hx hy
      obtain ⟨a1, a2⟩ := He.ba hx
      obtain ⟨b1, b2⟩ := He.ba hy
      rw [relD_inj hK o I sim a1 b1 r1 q1, relDs_inj hK o I sim a2 b2 r2 q2]
end
end
/-! ### tuples of own instances -/
def eq1M (cs : List Str) (c : Str) (m : Fn) (x y : D) : M Ex Bool := fun s Q E => isC s c x = some () ∧ tyAny cs s y = some () ∧ plainD cs x = true ∧ plainD cs y = true ∧ (x = y → Q true s) ∧ m [x, y] [] s (fun r s1 => asB r s1 Q E) E
theorem mono_eq1M {cs : List Str} {c : Str} {m : Fn} [MF m] (x y : D) : Mono (eq1M cs c m x y) := fun s Q Q' E E' hq he ⟨h1, h2, h3, h4, h5, h6⟩ => ⟨h1, h2, h3, h4, fun e => hq _ _ (h5 e), MF.mono _ _ _ _ _ _ _ (fun r s1 => mono_asB r s1 _ _ _ _ hq he) he h6⟩
def eqsM (cs : List Str) (c : Str) (m : Fn) : List D → List D → M Ex Bool
  | x :: xs, y :: ys => bindM (eq1M cs c m x y) fun k => if k = true then eqsM cs c m xs ys else pureM false
  | [], [] => pureM true
  | _, _ => pureM false
theorem mono_eqsM {cs : List Str} {c : Str} {m : Fn} [MF m] : ∀ (xs ys : List D), Mono (eqsM cs c m xs ys)
  | x :: xs, y :: ys => by unfold eqsM; exact mono_bind (mono_eq1M x y) fun k => mono_ite (mono_eqsM xs ys) (mono_pure _)
  | [], [] => by unfold eqsM; exact mono_pure _
  | [], _ :: _ => by unfold eqsM; exact mono_pure _
  | _ :: _, [] => by unfold eqsM; exact mono_pure _
def tupM (cs : List Str) (c : Str) (m : Fn) (neg : Bool) : PM := fun x y => match x, y with
  | .tup xs, .tup ys => bindM (eqsM cs c m xs ys) fun k => pureM (.bl (k ^^ neg))
  | _, _ => failM
instance {cs : List Str} {c : Str} {m : Fn} {neg : Bool} [MF m] : MP (tupM cs c m neg) := ⟨fun x y => by
  unfold tupM
  split
  · exact mono_bind (mono_eqsM _ _) fun _ => mono_pure _
  · exact mono_fail⟩
section
variable {cs : List Str} {c : Str} {f : Addr} {k : Nat} {m : Fn}
theorem rc_own {A : Around} {pins : List (Addr × Obj)} {s : Shared} {Q : VK} {x y : V} {v u : Value} {dx dy : D} {R : Bool → S → Prop} (hK : X.K = g.K) (o : OwnTy g cs) (q : EqC g cs c f) (C : Cal g X.prog X.w X.K X.mg X.base k f [] m) (hM : MonoF m) (hr : Room k A) (ev : Env0 X.prog X.w X.K X.mg X.base A X.stack s H) (I : Inv X pins σ H s) (sim : Sim g Z st F H) (hx : RelD g F dx x) (hy : RelD g F dy y) (rx : RelV x v) (ry : RelV y u)
    (h1 : isC st c dx = some ()) (h2 : tyAny cs st dy = some ())
    (h3 : m [dx, dy] [] st (fun r s1 => asB r s1 (fun k s2 => R k s2) (fun _ _ => False)) (fun _ _ => False)) (h : ∀ k s1 F' H', R k s1 → Same F F' → Sim g Z s1 F' H' → Q (.bl k) H') :
    wpAny (model X.prog X.w) A (richCompare .Eq v u) (fun v s' => ∃ k H', v = .bool k ∧ Inv X pins σ H' s' ∧ Q (.bl k) H') X.xe s := by
  obtain ⟨a, dd, fs, rfl, ha⟩ := isC_ok sim hx h1
  cases (show v = Value.ref a from rx)
  obtain ⟨mA, O, rr, _⟩ := ins_get I.hok ha
  obtain ⟨od, J, _⟩ := O.look
  obtain ⟨t, ty, hn⟩ := tyAny_ok o q sim hy h2
  rw [← hK] at ty hn
  obtain ⟨P, Z2, p, _⟩ := kit_of I ry ty
  obtain ⟨fm, hF⟩ := I.fr
  refine PySem.W.cmp_K (op := .Eq) (tb := t) hr.units0 hF I.ok.mod.kin J (Z2.ty _ _ I.kIn p) hn (by rw [hK]; exact q.eq) (by rw [hK]; exact q.fn) ?_
  refine wpAny_mono (run_own (Q := Q) C hM hr ev I sim hx hy ry h3 h) (fun v s' ⟨k, H', e, I', z⟩ => ?_) fun _ _ x => x
  subst e
  exact ⟨k, H', rfl, I', z⟩
theorem eqB_own {A : Around} {pins : List (Addr × Obj)} {s : Shared} {Q : VK} {x y : V} {v u : Value} {dx dy : D} {R : Bool → S → Prop} (hK : X.K = g.K) (o : OwnTy g cs) (q : EqC g cs c f) (C : Cal g X.prog X.w X.K X.mg X.base k f [] m) (hM : MonoF m) (hr : Room k A) (ev : Env0 X.prog X.w X.K X.mg X.base A X.stack s H) (I : Inv X pins σ H s) (sim : Sim g Z st F H) (hx : RelD g F dx x) (hy : RelD g F dy y) (rx : RelV x v) (ry : RelV y u)
    (h0 : eq1M cs c m dx dy st R (fun _ _ => False)) (h : ∀ k s1 F' H', R k s1 → Same F F' → Sim g Z s1 F' H' → Q (.bl k) H') :
    wpAny (model X.prog X.w) A (eqBool v u) (fun k s' => ∃ H', Inv X pins σ H' s' ∧ Q (.bl k) H') X.xe s := by
  obtain ⟨h1, h2, h3, h4, h5, h6⟩ := h0
  obtain ⟨a, dd, fs, ex, ha⟩ := isC_ok sim hx h1
  have ev2 : v = Value.ref a := by subst ex; exact rx
  subst ev2
  unfold eqBool
  refine wpAny_holding ?_
  refine wpAny_ite_split (fun hab => ?_) (fun _ => ?_)
  · have e : Value.ref a = u := eq_of_beq hab
    subst e
    have e2 : x = y := RelV.inj rx ry
    subst e2
    have e3 := relD_inj hK o I sim.same h3 h4 hx hy
    refine wpAny_bind (wpAny_rule (wpAny_pure ?_))
    exact ⟨H, I, h true st F H (h5 e3) (Same.refl _) sim⟩
  · refine wpAny_bind (wpAny_mono (rc_own (Q := Q) hK o q C hM hr ev I sim hx hy rx ry h1 h2 h6 h) (fun v s' hv => ?_) fun _ _ x => x)
    obtain ⟨r, H', rfl, I', z⟩ := hv
    exact wpAny_truthy_bool ⟨H', I', z⟩
theorem getElem_vals : ∀ {vs : List V} {us : List Value} (j : Nat) (h : j < us.length), Vals vs us → ∃ v, vs[j]? = some v ∧ RelV v us[j]
  | _, _, j, h, .nil => by cases h
  | _, _, 0, h, .cons a r => ⟨_, rfl, a⟩
  | _, _, j + 1, h, .cons a r => by
    obtain ⟨v, e, q⟩ := getElem_vals j (Nat.lt_of_succ_lt_succ h) r
    exact ⟨v, by simpa using e, q⟩
theorem drop_rel {ds : List D} {vs : List V} {j : Nat} {v : V} (r : RelDs g F ds vs) (h : vs[j]? = some v) : ∃ d, ds.drop j = d :: ds.drop (j + 1) ∧ RelD g F d v := by
  have r2 := (relDs_take j r).2
  obtain ⟨hj, e⟩ := List.getElem?_eq_some_iff.mp h
  rw [List.drop_eq_getElem_cons hj] at r2
  cases q : ds.drop j with
  | nil => rw [q] at r2; cases r2.nil_inv
  | cons d t =>
    rw [q] at r2
    obtain ⟨_, _, e2, h1, h2⟩ := r2.cons_inv
    cases e2
    rw [e] at h1
    refine ⟨d, ?_, h1⟩
    have : ds.drop (j + 1) = (ds.drop j).drop 1 := by rw [List.drop_drop]
    rw [this, q]; rfl
/-- the items, one behind another -/
theorem eqs_turn {A : Around} {pins : List (Addr × Obj)} {Q : Bool → Hp → Prop} {xs ys : List D} {vx vy : List V} {us ws : List Value} {F0 : Hp} (hK : X.K = g.K) (o : OwnTy g cs) (q : EqC g cs c f) (C : Cal g X.prog X.w X.K X.mg X.base k f [] m) [MF m] (hr : Room k A) (hA : ∀ {s H}, Inv X pins σ H s → Env0 X.prog X.w X.K X.mg X.base A X.stack s H)
    (rx : RelDs g F0 xs vx) (ry : RelDs g F0 ys vy) (wx : Vals vx us) (wy : Vals vy ws) {P : Bool → Shared → Prop} (hP : ∀ s H k, Inv X pins σ H s → Q k H → P k s)
    (J : Nat → Shared → Prop) (eJ : J = fun j s => ∃ H F st, Inv X pins σ H s ∧ Sim g Z st F H ∧ Same F0 F ∧ eqsM cs c m (xs.drop j) (ys.drop j) st (fun k s1 => ∀ F' H', Same F F' → Sim g Z s1 F' H' → Q k H') (fun _ _ => False))
    (j : Nat) (s : Shared) (h1 : j < us.length) (h2 : j < ws.length) (h : J j s) : wpAny (model X.prog X.w) A (eqBool us[j] ws[j]) (fun k s' => if k = true then J (j + 1) s' else P false s') X.xe s := by
  subst eJ
  obtain ⟨H, F, st, I, sim, sm, h⟩ := h
  obtain ⟨v, ev, rv⟩ := getElem_vals j h1 wx
  obtain ⟨u, eu, ru⟩ := getElem_vals j h2 wy
  obtain ⟨dx, ex, hx⟩ := drop_rel rx ev
  obtain ⟨dy, ey, hy⟩ := drop_rel ry eu
  rw [ex, ey] at h
  unfold eqsM at h
  refine wpAny_mono (eqB_own (R := fun k s1 => (if k = true then eqsM cs c m (xs.drop (j + 1)) (ys.drop (j + 1)) else pureM false) s1 (fun k s1 => ∀ F' H', Same F F' → Sim g Z s1 F' H' → Q k H') (fun _ _ => False))
    (Q := fun v H' => ∃ k, v = .bl k ∧ if k = true then ∃ F' st', Sim g Z st' F' H' ∧ Same F0 F' ∧ eqsM cs c m (xs.drop (j + 1)) (ys.drop (j + 1)) st' (fun k s1 => ∀ F'' H', Same F' F'' → Sim g Z s1 F'' H' → Q k H') (fun _ _ => False) else Q false H')
    hK o q C MF.mono hr (hA I) I sim (hx.mono sm) (hy.mono sm) rv ru h fun k s1 F' H' z e sim' => ⟨k, rfl, ?_⟩) (fun k s' ⟨H', I', k', ek, z⟩ => ?_) fun _ _ x => x
  · cases k with
    | true =>
      rw [if_pos rfl] at z ⊢
      exact ⟨F', s1, sim', sm.trans e, mono_eqsM _ _ _ _ _ _ _ (fun _ _ z F'' H'' e2 => z F'' H'' (e.trans e2)) (fun _ _ z => z) z⟩
    | false =>
      rw [if_neg Bool.false_ne_true] at z ⊢
      exact z F' H' e sim'
  · cases ek
    cases k with
    | true =>
      rw [if_pos rfl] at z ⊢
      obtain ⟨F', st', sim', sm', z⟩ := z
      exact ⟨H', F', st', I', sim', sm', z⟩
    | false =>
      rw [if_neg Bool.false_ne_true] at z ⊢
      exact hP s' H' false I' z
theorem eqsM_end {xs ys : List D} {Q : Bool → S → Prop} {E : Ex → S → Prop} (h : eqsM cs c m (xs.drop (min xs.length ys.length)) (ys.drop (min xs.length ys.length)) st Q E) : Q (xs.length == ys.length) st := by
  rcases Nat.lt_trichotomy xs.length ys.length with l | l | l
  · rw [Nat.min_eq_left (Nat.le_of_lt l), List.drop_of_length_le (Nat.le_refl _), List.drop_eq_getElem_cons l] at h
    have : (xs.length == ys.length) = false := beq_eq_false_iff_ne.mpr (Nat.ne_of_lt l)
    rw [this]; exact h
  · rw [← l, Nat.min_self, List.drop_of_length_le (Nat.le_refl _), List.drop_of_length_le (Nat.le_of_eq l.symm)] at h
    rw [l, beq_self_eq_true]; exact h
  · rw [Nat.min_eq_right (Nat.le_of_lt l), List.drop_of_length_le (Nat.le_refl ys.length), List.drop_eq_getElem_cons l] at h
    have : (xs.length == ys.length) = false := beq_eq_false_iff_ne.mpr (Nat.ne_of_gt l)
    rw [this]; exact h
theorem od_tup (hK : X.K = g.K) (o : OwnTy g cs) (q : EqC g cs c f) (C : Cal g X.prog X.w X.K X.mg X.base k f [] m) [MF m] (hr : Room (k + 1) X.A) : OpR X (compareOp .Eq) (rM g (tupM cs c m false)) := by
  intro pins s σ H x y v u Q I rx ry ⟨Z, F, st, dx, dy, sim, hx, hy, h⟩
  unfold tupM at h
  split at h
  · rename_i xs ys
    unfold RelD at hx hy
    obtain ⟨a, vx, rfl, sx, hx⟩ := hx
    obtain ⟨b, vy, rfl, sy, hy⟩ := hy
    cases (show v = Value.ref a from rx)
    cases (show u = Value.ref b from ry)
    have sx2 := sqT_mono sim.same sx; have sy2 := sqT_mono sim.same sy
    rw [← hK] at sx2 sy2
    obtain ⟨us, wx, ⟨⟨cls, dd, data, sl⟩, ho, hc, n, hd⟩, _⟩ := I.tuple sx2
    obtain ⟨ws, wy, ⟨⟨cls2, dd2, data2, sl2⟩, ho2, hc2, n2, hd2⟩, _⟩ := I.tuple sy2
    simp only at hc hd hc2 hd2
    subst hc hd hc2 hd2
    have lx : us.length = xs.length := wx.length.symm.trans hx.len
    have ly : ws.length = ys.length := wy.length.symm.trans hy.len
    show wpAny _ _ (richCompare .Eq (.ref a) (.ref b)) _ _ _
    refine wpAny_richCompare_same_room (op := .Eq) ⟨_, ho, rfl⟩ ⟨_, ho2, rfl⟩ PySem.F.slot_tuple_eq (GQ.call_here PySem.F.slot_tuple_eq ⟨_, ho, rfl⟩ PySem.F.entry_tuple_eq (PySem.F.args_tuple_eq_2 _ _) ?_) hr.units0
    let Q2 : Bool → Hp → Prop := fun k H' => Q (.bl (k ^^ false)) H'
    refine tuple_eqW a b us.toArray ws.toArray n n2 dd dd2 sl sl2 (fun j s => ∃ H F', ∃ st, Inv X pins σ H s ∧ Sim g Z st F' H ∧ Same F F' ∧ eqsM cs c m (xs.drop j) (ys.drop j) st (fun k s1 => ∀ F'' H', Same F' F'' → Sim g Z s1 F'' H' → Q2 k H') (fun _ _ => False)) X.A _ s ⟨ho, ho2, ?_, fun j s' h1 h2 hj => ?_, fun s' hj => ?_⟩
    · exact ⟨H, F, st, I, sim, Same.refl _, mono_eqsM _ _ _ _ _ _ _ (fun k s1 z F' H' e sim' => z _ F' H' e sim' relD_bl) (fun _ _ z => z) h⟩
    · have h1' : j < us.length := by simpa using h1
      have h2' : j < ws.length := by simpa using h2
      have z := eqs_turn (Q := Q2) (A := X.A.in1) hK o q C hr.in1 (fun I => I.env0.in1) hx hy wx wy (P := fun k s' => EP X pins σ Q (.bool (k ^^ false)) s') (fun s H k I z => ⟨.bl (k ^^ false), H, I, rfl, z⟩) _ rfl j s' h1' h2' hj
      refine wpAny_mono z (fun k s2 z => ?_) fun _ _ x => x
      cases k with
      | true => rw [if_pos rfl] at z ⊢; exact z
      | false => rw [if_neg Bool.false_ne_true] at z ⊢; exact ⟨(fun x => nomatch x), z⟩
    · obtain ⟨H, F', st, I, sim', sm, z⟩ := hj
      have lz : min us.toArray.size ws.toArray.size = min xs.length ys.length := by simp [lx, ly]
      rw [lz] at z
      have z2 := eqsM_end z F' H (Same.refl _) sim'
      refine ⟨(fun x => nomatch x), .bl ((us.toArray.size == ws.toArray.size)), H, I, rfl, ?_⟩
      have e : (us.toArray.size == ws.toArray.size) = (xs.length == ys.length) := by simp [lx, ly]
      rw [e]
      simpa [Q2] using z2
  · exact h.elim
theorem od_tupN (hK : X.K = g.K) (o : OwnTy g cs) (q : EqC g cs c f) (C : Cal g X.prog X.w X.K X.mg X.base k f [] m) [MF m] (hr : Room (k + 1) X.A) : OpR X (compareOp .NotEq) (rM g (tupM cs c m true)) := by
  intro pins s σ H x y v u Q I rx ry ⟨Z, F, st, dx, dy, sim, hx, hy, h⟩
  unfold tupM at h
  split at h
  · rename_i xs ys
    unfold RelD at hx hy
    obtain ⟨a, vx, rfl, sx, hx⟩ := hx
    obtain ⟨b, vy, rfl, sy, hy⟩ := hy
    cases (show v = Value.ref a from rx)
    cases (show u = Value.ref b from ry)
    have sx2 := sqT_mono sim.same sx; have sy2 := sqT_mono sim.same sy
    rw [← hK] at sx2 sy2
    obtain ⟨us, wx, ⟨⟨cls, dd, data, sl⟩, ho, hc, n, hd⟩, _⟩ := I.tuple sx2
    obtain ⟨ws, wy, ⟨⟨cls2, dd2, data2, sl2⟩, ho2, hc2, n2, hd2⟩, _⟩ := I.tuple sy2
    simp only at hc hd hc2 hd2
    subst hc hd hc2 hd2
    have lx : us.length = xs.length := wx.length.symm.trans hx.len
    have ly : ws.length = ys.length := wy.length.symm.trans hy.len
    show wpAny _ _ (richCompare .NotEq (.ref a) (.ref b)) _ _ _
    refine wpAny_richCompare_same_room (op := .NotEq) ⟨_, ho, rfl⟩ ⟨_, ho2, rfl⟩ PySem.F.slot_tuple_ne (GQ.call_here PySem.F.slot_tuple_ne ⟨_, ho, rfl⟩ PySem.F.entry_tuple_ne (PySem.F.args_tuple_ne_2 _ _) ?_) hr.units0
    let Q2 : Bool → Hp → Prop := fun k H' => Q (.bl (k ^^ true)) H'
    refine tuple_neW a b us.toArray ws.toArray n n2 dd dd2 sl sl2 (fun j s => ∃ H F', ∃ st, Inv X pins σ H s ∧ Sim g Z st F' H ∧ Same F F' ∧ eqsM cs c m (xs.drop j) (ys.drop j) st (fun k s1 => ∀ F'' H', Same F' F'' → Sim g Z s1 F'' H' → Q2 k H') (fun _ _ => False)) X.A _ s ⟨ho, ho2, ?_, fun j s' h1 h2 hj => ?_, fun s' hj => ?_⟩
    · exact ⟨H, F, st, I, sim, Same.refl _, mono_eqsM _ _ _ _ _ _ _ (fun k s1 z F' H' e sim' => z _ F' H' e sim' relD_bl) (fun _ _ z => z) h⟩
    · have h1' : j < us.length := by simpa using h1
      have h2' : j < ws.length := by simpa using h2
      have z := eqs_turn (Q := Q2) (A := X.A.in1) hK o q C hr.in1 (fun I => I.env0.in1) hx hy wx wy (P := fun k s' => EP X pins σ Q (.bool (k ^^ true)) s') (fun s H k I z => ⟨.bl (k ^^ true), H, I, rfl, z⟩) _ rfl j s' h1' h2' hj
      refine wpAny_mono z (fun k s2 z => ?_) fun _ _ x => x
      cases k with
      | true => rw [if_pos rfl] at z ⊢; exact z
      | false => rw [if_neg Bool.false_ne_true] at z ⊢; exact ⟨(fun x => nomatch x), z⟩
    · obtain ⟨H, F', st, I, sim', sm, z⟩ := hj
      have lz : min us.toArray.size ws.toArray.size = min xs.length ys.length := by simp [lx, ly]
      rw [lz] at z
      have z2 := eqsM_end z F' H (Same.refl _) sim'
      refine ⟨(fun x => nomatch x), .bl (!(us.toArray.size == ws.toArray.size)), H, I, rfl, ?_⟩
      have e : (us.toArray.size == ws.toArray.size) = (xs.length == ys.length) := by simp [lx, ly]
      rw [e]
      simpa [Q2] using z2
  · exact h.elim
end
end DL
namespace DL
open PySem L2
/-- the facts of an own == -/
def eqcB (cs : List Str) (c : Str) (K : PySem.W.Frag) : Bool := decide (PySem.W.findIn K (.ref (He.ga K c)) "__eq__" = some (some (.ref (He.ma K (He.ga K c) "__eq__")))) && (PySem.W.isFn K (.ref (He.ma K (He.ga K c) "__eq__")) &&
  (decide (PySem.W.findIn K (.ref (He.ga K c)) "__ne__" = some (some (.builtin "object.__ne__"))) && (decide (PySem.W.mroIn K (He.ga K c) (.type "object") = some true) && ((baseTys.all fun t => PySem.W.notFirst K (He.ga K c) (.type t)) && cs.all fun c' => PySem.W.notFirst K (He.ga K c) (.ref (He.ga K c'))))))
theorem eqcB_ok {cs : List Str} {c : Str} {K : PySem.W.Frag} (hc : c ∈ cs) (h : eqcB cs c K = true) : EqC (gK K) cs c (He.ma K (He.ga K c) "__eq__") := by
  obtain ⟨h1, h⟩ := He.ba h
  obtain ⟨h2, h⟩ := He.ba h
  obtain ⟨h3, h⟩ := He.ba h
  obtain ⟨h4, h⟩ := He.ba h
  obtain ⟨h5, h6⟩ := He.ba h
  exact ⟨hc, of_decide_eq_true h1, h2, of_decide_eq_true h3, of_decide_eq_true h4, List.all_eq_true.mp h5, List.all_eq_true.mp h6⟩
def cmFB (K : PySem.W.Frag) (c m : Str) : Bool := match PySem.W.findCls K (.ref (He.ga K c)) (.type "type") m with
  | some (.get (.builtin b) (.ref p) .none (.ref C)) => decide (b = "classmethod.__get__") && (decide (p = He.ma K (He.ga K c) m) && decide (C = He.ga K c))
  | _ => false
theorem cmFB_ok {K : PySem.W.Frag} {c m : Str} (h : cmFB K c m = true) : PySem.W.findCls K (.ref (He.ga K c)) (.type "type") m = some (.get (.builtin "classmethod.__get__") (.ref (He.ma K (He.ga K c) m)) .none (.ref (He.ga K c))) := by
  unfold cmFB at h
  split at h
  · rename_i b p C e
    obtain ⟨h1, h⟩ := He.ba h
    obtain ⟨h2, h3⟩ := He.ba h
    rw [e, of_decide_eq_true h1, of_decide_eq_true h2, of_decide_eq_true h3]
  · cases h
theorem noattr_of {K : PySem.W.Frag} {c : Addr} {f : Str} (h : decide (PySem.W.findIn K (.ref c) f = some none) = true) : NoAttr K c f := by
  unfold NoAttr
  exact of_decide_eq_true h
end DL

/-! ### running mirrors: places that change -/
namespace DL
open PySem L2
section
variable {ρ : Env} {s : S} {E : Ex → S → Prop} {EE : Ex × Env → S → Prop} {Q : D → S → Prop} {QU : Unit → S → Prop} {QF : Fl → S → Prop} {a b : Addr} {c f : Str} {fs : List (Str × D)} {v d y : D} {xs ds es : List D} {o : Ob} {kvs : List (Key × D)}
theorem map_set : (s.set a o).map a = some o := S.set_same
theorem map_ne (h : b ≠ a) : (s.set a o).map b = s.map b := S.set_ne h
theorem ne_of_map {o' : Ob} (h : s.map b = some o') (k : s.map a = none) : b ≠ a := by rintro rfl; rw [k] at h; cases h
theorem map_keep {o' : Ob} (h : s.map b = some o') (k : s.map a = none) : (s.set a o).map b = some o' := by rw [S.set_ne (ne_of_map h k)]; exact h
theorem set_set {o' : Ob} : (s.set a o).set a o' = s.set a o' := S.set_set
theorem x_atLf {F : D → S → List D → Option (List D)} (h : s.map a = some (.lst xs)) : atLf F (.ref a) y s Q E = ∃ ys, F y s xs = some ys ∧ Q .non (s.set a (.lst ys)) := by
  refine propext ⟨fun ⟨a', xs', ys, e, h1, h2, h3⟩ => ?_, fun ⟨ys, h2, h3⟩ => ⟨a, xs, ys, rfl, h, h2, h3⟩⟩
  cases e
  rw [h] at h1
  cases h1
  exact ⟨ys, h2, h3⟩
theorem x_atLfS {F : D → S → List D → Option (List D)} : atLf F (.ref a) y (s.set a (.lst xs)) Q E = ∃ ys, F y (s.set a (.lst xs)) xs = some ys ∧ Q .non (s.set a (.lst ys)) := by
  rw [x_atLf S.set_same]; simp only [S.set_set]
theorem isL_set : isL (.ref a) (s.set a (.lst xs)) = some () := by
  show (obL ((s.set a (.lst xs)).map a)).map _ = _
  rw [S.set_same]; rfl
theorem isL_at (h : s.map a = some (.lst xs)) : isL (.ref a) s = some () := by
  show (obL (s.map a)).map _ = _
  rw [h]; rfl
theorem appF_ok (h : xs.length < sizeLine) : appF y s xs = some (xs ++ [y]) := if_pos h
theorem extF_ok {zs : List D} (h : xs.length + zs.length ≤ sizeLine) : extF (.lst zs) s xs = some (xs ++ zs) := if_pos h
theorem lstOf_set : lstOf (s.set a (.lst xs)) (.ref a) = some xs := by
  show obL ((s.set a (.lst xs)).map a) = _
  rw [S.set_same]; rfl
theorem lstOf_at (h : s.map a = some (.lst xs)) : lstOf s (.ref a) = some xs := by
  show obL (s.map a) = _
  rw [h]; rfl
theorem seqD_at (h : s.map a = some (.lst xs)) : seqD s (.ref a) = some xs := by
  show obL (s.map a) = _
  rw [h]; rfl
theorem seqD_set : seqD (s.set a (.lst xs)) (.ref a) = some xs := seqD_at S.set_same
theorem dicOf_at (h : s.map a = some (.dic kvs)) : dicOf s (.ref a) = some kvs := by
  show obK (s.map a) = _
  rw [h]; rfl
theorem dicOf_set : dicOf (s.set a (.dic kvs)) (.ref a) = some kvs := dicOf_at S.set_same
theorem dicOf_dic {ks : List Key} {vs : List D} : dicOf s (.dic ks vs) = some (ks.zip vs) := rfl
theorem keyD_str {z : Str} : keyD (.str z) = some (.inr z) := rfl
theorem keyD_int {i : Int} : keyD (.int i) = some (.inl i) := rfl
theorem x_setKey {k : D} (h : s.map a = some (.dic kvs)) : setKey (.ref a) k v s QU EE = (∃ key, keyD k = some key ∧ kvs.length < sizeLine ∧ QU () (s.set a (.dic (putKD kvs key v)))) := by
  refine propext ⟨fun ⟨a', kvs', key, e, h1, h2, h3, h4⟩ => ?_, fun ⟨key, h2, h3, h4⟩ => ⟨a, kvs, key, rfl, h, h2, h3, h4⟩⟩
  cases e
  rw [h] at h1
  cases h1
  exact ⟨key, h2, h3, h4⟩
theorem x_setKeyS {k : D} : setKey (.ref a) k v (s.set a (.dic kvs)) QU EE = (∃ key, keyD k = some key ∧ kvs.length < sizeLine ∧ QU () (s.set a (.dic (putKD kvs key v)))) := by
  rw [x_setKey S.set_same]; simp only [S.set_set]
theorem x_newL : outN ds s Q E = ∀ a, s.map a = none → Q (.ref a) (s.set a (.lst ds)) := rfl
theorem srcP_set : srcP (.ref a) xs (s.set a (.lst xs)) := by
  show obL ((s.set a (.lst xs)).map a) = some xs
  rw [S.set_same]; rfl
theorem lt_sz {n : Nat} (h : n < 100000) : n < sizeLine := Nat.lt_of_lt_of_le h (by decide)
theorem le_sz {n : Nat} (h : n ≤ 100000) : n ≤ sizeLine := Nat.le_trans h (by decide)
theorem freezeE_lst (hs : s.map a = none) : (freeze (.ref a) : M (Ex × Env) D) (s.set a (.lst xs)) Q EE = Q (.lst xs) s := by
  refine propext ⟨fun ⟨a', o, x, e, h1, h2, h3⟩ => ?_, fun h => ⟨a, _, _, rfl, S.set_same, rfl, by rw [S.del_set hs]; exact h⟩⟩
  cases e
  rw [S.set_same] at h1
  cases h1
  cases h2
  rw [S.del_set hs] at h3
  exact h3
theorem freezeE_dic (hs : s.map a = none) : (freeze (.ref a) : M (Ex × Env) D) (s.set a (.dic kvs)) Q EE = Q (.dic (kvs.map (·.1)) (kvs.map (·.2))) s := by
  refine propext ⟨fun ⟨a', o, x, e, h1, h2, h3⟩ => ?_, fun h => ⟨a, _, _, rfl, S.set_same, rfl, by rw [S.del_set hs]; exact h⟩⟩
  cases e
  rw [S.set_same] at h1
  cases h1
  cases h2
  rw [S.del_set hs] at h3
  exact h3
/-- a statement and what follows, where ways join -/
def seqC (p r : Env → MS) : Env → MS := seqS p r
theorem fb_consC {g : G} {X : Cx} {W : WX} {st : Stmt} {r : List Stmt} {p q : Env → MS} (h : FS g X W st p) (k : FB g X W r q) : FB g X W (st :: r) (seqC p q) := fb_cons h k
instance {p r : Env → MS} [MB p] [MB r] : MB (seqC p r) := ⟨mono_seqS MB.mono MB.mono⟩
theorem x_seqC {p r : Env → MS} : seqC p r ρ s QF EE = p ρ s (fun f s' => thenF r f s' QF EE) EE := rfl
theorem cutC {p r : Env → MS} [MB p] (I : Env → S → Prop) (h1 : p ρ s (fun f s' => thenF (fun ρ' s'' _ _ => I ρ' s'') f s' QF EE) EE) (h2 : ∀ ρ' s', I ρ' s' → r ρ' s' QF EE) : seqC p r ρ s QF EE := seq_cut I h1 h2
/-- a comprehension whose parts change nothing -/
theorem lc_filt {α : Type} {P : S → Prop} {f : D → Env → Option Env} {t : Env → M Ex Bool} {m : Env → M Ex D} [MB t] [MB m] {QL : List D → S → Prop} (el g : α → D) (kk : α → Bool) : ∀ (xs : List α) (acc : List D), P s → (∀ x ∈ xs, ∃ ρ1, f (el x) ρ = some ρ1 ∧ t ρ1 s (fun k s1 => k = kk x ∧ s1 = s) (fun _ _ => False) ∧ (kk x = true → m ρ1 s (fun y s1 => y = g x ∧ s1 = s) (fun _ _ => False))) →
    QL (acc ++ (xs.filter kk).map g) s → lcLoop P f t m ρ (xs.map el) acc s QL E
  | [], acc, hP, _, q => ⟨hP, by simpa using q⟩
  | x :: xs, acc, hP, h, q => by
    obtain ⟨ρ1, h1, h2, h3⟩ := h x List.mem_cons_self
    rw [List.map_cons, x_lc_cons]
    refine ⟨hP, ρ1, h1, MB.mono ρ1 _ _ _ _ _ (fun k s1 z => ?_) (fun _ _ z => z) h2⟩
    obtain ⟨z1, z2⟩ := z
    rw [z1, z2]
    cases e : kk x with
    | true =>
      rw [selB_t]
      refine MB.mono ρ1 _ _ _ _ _ (fun y s1 z => ?_) (fun _ _ z => z) (h3 e)
      obtain ⟨z1, z2⟩ := z
      rw [z1, z2]
      refine lc_filt el g kk xs _ hP (fun y hy => h y (List.mem_cons_of_mem _ hy)) ?_
      rw [List.filter_cons, e] at q
      simpa using q
    | false =>
      rw [selB_f]
      refine lc_filt el g kk xs _ hP (fun y hy => h y (List.mem_cons_of_mem _ hy)) ?_
      rw [List.filter_cons, e] at q
      simpa using q
theorem lc_pure {α : Type} {P : S → Prop} {f : D → Env → Option Env} {m : Env → M Ex D} [MB m] {QL : List D → S → Prop} (el g : α → D) (xs : List α) (acc : List D) (hP : P s) (h : ∀ x ∈ xs, ∃ ρ1, f (el x) ρ = some ρ1 ∧ m ρ1 s (fun y s1 => y = g x ∧ s1 = s) (fun _ _ => False))
    (q : QL (acc ++ xs.map g) s) : lcLoop P f yesT m ρ (xs.map el) acc s QL E :=
  lc_filt el g (fun _ => true) xs acc hP (fun x hx => let ⟨ρ1, h1, h2⟩ := h x hx; ⟨ρ1, h1, ⟨rfl, rfl⟩, fun _ => h2⟩) (by rw [List.filter_eq_self.mpr (fun _ _ => rfl)]; exact q)
theorem ints_succ {lo : Int} {n : Nat} : intsD lo (n + 1) = .int lo :: intsD (lo + 1) n := by
  unfold intsD
  rw [List.range_succ_eq_map, List.map_cons, List.map_map]
  congr 1
  · simp
  · refine List.map_congr_left fun i _ => ?_
    simp only [Function.comp]
    congr 1
    omega
theorem ints_zero {lo : Int} : intsD lo 0 = [] := rfl
end
/-! ### local lists and dicts are let go -/
section
variable {g : G} {Z F H : Hp} {W : WX} {σ : St} {ρ : Env} {st : S} {X : Cx} {e : Expr} {pos : Pos}
theorem Sim.forget {p : Addr} {ob : Ob} (s : Sim g Z st F H) (e : st.map p = some ob) (nb : ob ≠ .raw) : Sim g Z (st.del p) F H := by
  refine ⟨s.same, fun a u q => ?_, fun a u q => ?_⟩
  · have z : a ≠ p := by rintro rfl; rw [S.del_same] at q; cases q
    rw [S.del_ne z] at q
    obtain ⟨f1, r1⟩ := s.ob a u q
    refine ⟨f1, r1.move (Same.refl _) rfl fun c m => ?_⟩
    rw [S.del_ne (by rintro rfl; rw [e] at m; exact nb (Option.some.inj m))]; exact m
  · obtain ⟨f1, m, h1⟩ := s.pin a u q
    have hc : a ≠ p := by rintro rfl; rw [e] at m; cases m
    exact ⟨f1, by rw [S.del_ne hc]; exact m, h1⟩
def dropO (o : Option (Option D)) (s : S) : S := match o with
  | some (some (.ref a)) => match s.map a with
    | some (.lst _) => s.del a
    | some (.dic _) => s.del a
    | some (.ins _ _) => s.del a
    | _ => s
  | _ => s
theorem Sim.dropO {o : Option (Option D)} (s : Sim g Z st F H) : Sim g Z (DL.dropO o st) F H := by
  unfold DL.dropO
  split
  · split
    · rename_i h; exact s.forget h (by simp)
    · rename_i h; exact s.forget h (by simp)
    · rename_i h; exact s.forget h (by simp)
    · exact s
  · exact s
def dropAll (ρ : Env) : List Nat → S → S
  | [], s => s
  | i :: is, s => dropAll ρ is (dropO ρ[i]? s)
theorem Sim.dropAll : ∀ {is : List Nat} {st : S}, Sim g Z st F H → Sim g Z (DL.dropAll ρ is st) F H
  | [], _, s => s
  | i :: is, st, s => Sim.dropAll (is := is) (Sim.dropO (o := ρ[i]?) s)
def outD (ρ : Env) (is : List Nat) (d : D) : MS := fun s Q _ => Q (.rt d) (dropAll ρ is s)
theorem mono_outD {is : List Nat} {d : D} : Mono (outD ρ is d) := fun _ _ _ _ _ hq _ z => hq _ _ z
def retD (is : List Nat) (m : Env → M Ex D) : Env → MS := fun ρ => bindM (up ρ (m ρ)) (outD ρ is)
theorem fs_retD {is : List Nat} {m : Env → M Ex D} (h : FE g X W e m) : FS g X W (.Return (some e) pos) (retD is m) :=
  ⟨PS.imp (ps_ret h.pe) fun D σ H ⟨Z, F, st, ρ, E, N, q⟩ => tS.go (k := outD ρ is) N (h.mono ρ) (fun _ => mono_outD) q fun d v F st H1 e N r q => q v F H1 (Same.refl _) N.sim.dropAll r,
   fun ρ => mono_bind (mono_up (h.mono ρ)) fun _ => mono_outD⟩
instance {is : List Nat} {m : Env → M Ex D} [MB m] : MB (retD is m) := ⟨fun ρ => mono_bind (mono_up (MB.mono ρ)) fun _ => mono_outD⟩
variable {s : S} {QF : Fl → S → Prop} {EE : Ex × Env → S → Prop} {a : Addr}
theorem x_retD {is : List Nat} {m : Env → M Ex D} : retD is m ρ s QF EE = m ρ s (fun d s' => QF (.rt d) (dropAll ρ is s')) (fun x s' => EE (x, ρ) s') := rfl
theorem drop_nil : dropAll ρ [] s = s := rfl
theorem drop_cons {i : Nat} {is : List Nat} : dropAll ρ (i :: is) s = dropAll ρ is (dropO ρ[i]? s) := rfl
theorem drop_lst (h : s.map a = none) {xs : List D} : dropO (some (some (.ref a))) (s.set a (.lst xs)) = s := by
  unfold dropO
  simp only [S.set_same]
  exact S.del_set h
theorem drop_dic (h : s.map a = none) {xs : List (Key × D)} : dropO (some (some (.ref a))) (s.set a (.dic xs)) = s := by
  unfold dropO
  simp only [S.set_same]
  exact S.del_set h
end
end DL

namespace DL
def runs_D19 := And.intro @map_set (And.intro @set_set (And.intro @x_atLfS (And.intro @isL_set (And.intro @lstOf_set (And.intro @seqD_set (And.intro @dicOf_set (And.intro @dicOf_dic (And.intro @keyD_str (And.intro @keyD_int (And.intro @x_setKeyS (And.intro @x_newL (And.intro @x_retD (And.intro @drop_nil (@drop_cons))))))))))))))
end DL
/-! ### dict displays, dict(d), isinstance of several classes -/
namespace DL
open PySem L2
section
variable {g : G} {Z F F' H H' : Hp} {W : WX} {σ : St} {ρ : Env} {st : S} {X : Cx} {e e1 e2 : Expr} {pos p : Pos} {es : List Expr} {x : Str}
def RelPs (g : G) (F : Hp) (ps : List (D × D)) (vs : List (V × V)) : Prop := RelDs g F (ps.map (·.1)) (vs.map (·.1)) ∧ RelDs g F (ps.map (·.2)) (vs.map (·.2))
def prsN : Env → M Ex (List (D × D)) := fun _ => pureM []
def prsC (k v : Env → M Ex D) (r : Env → M Ex (List (D × D))) : Env → M Ex (List (D × D)) := fun ρ => bindM (k ρ) fun x => bindM (v ρ) fun y => bindM (r ρ) fun ps => pureM ((x, y) :: ps)
structure FPs (g : G) (X : Cx) (W : WX) (pos : Pos) (keys : List (Option Expr)) (values : List Expr) (m : Env → M Ex (List (D × D))) : Prop where
  pps : ∃ trs, PPs X pos keys values trs ∧ ∀ σ H Q, tX g (RelPs g) W m σ H Q → tPairs trs σ H Q
  mono : ∀ ρ, Mono (m ρ)
theorem fps_nil : FPs g X W pos [] [] prsN := ⟨⟨[], pps_nil, fun σ H Q ⟨Z, F, st, ρ, E, N, q⟩ => tX.done (R := RelPs g) (d := []) (v := []) N ⟨.nil, .nil⟩ q⟩, fun _ => mono_pure _⟩
theorem fps_cons {ks : List (Option Expr)} {vs : List Expr} {a b : Env → M Ex D} {m : Env → M Ex (List (D × D))} (ha : FE g X W e1 a) (hb : FE g X W e2 b) (h : FPs g X W pos ks vs m) : FPs g X W pos (some e1 :: ks) (e2 :: vs) (prsC a b m) := by
  obtain ⟨⟨trs, h1, h2⟩, h3⟩ := h
  have m3 : ∀ ρ x y, Mono (bindM (m ρ) fun ps => (pureM ((x, y) :: ps) : M Ex (List (D × D)))) := fun ρ x y => mono_bind (h3 ρ) fun _ => mono_pure _
  have m2 : ∀ ρ x, Mono (bindM (b ρ) fun y => bindM (m ρ) fun ps => (pureM ((x, y) :: ps) : M Ex (List (D × D)))) := fun ρ x => mono_bind (hb.mono ρ) (m3 ρ x)
  refine ⟨⟨_, pps_cons ha.pe hb.pe h1, fun σ H Q ⟨Z, F, st, ρ, E, N, q⟩ => ?_⟩, fun ρ => mono_bind (ha.mono ρ) (m2 ρ)⟩
  refine tX.go N (ha.mono ρ) (m2 ρ) q fun d v F st H1 e N r q => ?_
  refine tX.go (R1 := RelD g) N (hb.mono ρ) (m3 ρ d) q fun d2 v2 F2 st2 H2 e2 N2 r2 q2 => ?_
  refine h2 _ _ _ ?_
  refine tX.go (R1 := RelPs g) N2 (h3 ρ) (fun _ => mono_pure _) q2 fun ds vs F3 st3 H3 e3 N3 r3 q3 => ?_
  exact tX.done (R := RelPs g) (d := (d, d2) :: ds) N3 ⟨.cons (r.mono (e2.trans e3)) r3.1, .cons (r2.mono e3) r3.2⟩ q3
def keysD : List (D × D) → Option (List (Key × D))
  | [] => some []
  | (k, v) :: r => (keyD k).bind fun key => (keysD r).map fun kvs => (key, v) :: kvs
theorem keysD_rel : ∀ {ps : List (D × D)} {vs : List (V × V)} {kds : List (Key × D)}, RelPs g F ps vs → keysD ps = some kds → ∃ kvs : List (Key × V), vs = kvs.map (fun kv => (kV kv.1, kv.2)) ∧ kvs.map (·.1) = kds.map (·.1) ∧ RelDs g F (kds.map (·.2)) (kvs.map (·.2))
  | [], vs, kds, r, h => by
    cases (Option.some.inj h)
    have := r.1.nil_inv
    have e : vs = [] := List.map_eq_nil_iff.mp this
    subst e
    exact ⟨[], rfl, rfl, .nil⟩
  | (k, v) :: ps, vs, kds, r, h => by
    obtain ⟨key, h1, h⟩ := Option.bind_eq_some_iff.mp (show ((keyD k).bind fun key => (keysD ps).map fun kvs => (key, v) :: kvs) = some kds from h)
    obtain ⟨kds', h2, rfl⟩ := Option.map_eq_some_iff.mp h
    obtain ⟨u, r1, e1, ru, rr⟩ := r.1.cons_inv
    obtain ⟨u2, r2, e2, ru2, rr2⟩ := r.2.cons_inv
    cases vs with
    | nil => cases e1
    | cons w vs =>
      obtain ⟨w1, w2⟩ := w
      obtain ⟨rfl, rfl⟩ := List.cons.inj e1
      obtain ⟨rfl, rfl⟩ := List.cons.inj e2
      obtain ⟨kvs, h3, h4, h5⟩ := keysD_rel (ps := ps) (vs := vs) ⟨rr, rr2⟩ h2
      have := keyD_rel h1 ru
      have this : w1 = kV key := this
      subst this
      exact ⟨(key, w2) :: kvs, by rw [List.map_cons, h3], by rw [List.map_cons, List.map_cons, h4], .cons ru2 h5⟩
def mergeKD (kvs more : List (Key × D)) : List (Key × D) := more.foldl (fun acc kv => putKD acc kv.1 kv.2) kvs
theorem mergeKD_rel : ∀ {more : List (Key × D)} {mv : List (Key × V)} {kds : List (Key × D)} {kvs : List (Key × V)}, mv.map (·.1) = more.map (·.1) → RelDs g F (more.map (·.2)) (mv.map (·.2)) → kvs.map (·.1) = kds.map (·.1) → RelDs g F (kds.map (·.2)) (kvs.map (·.2)) →
    (mergeK kvs mv).map (·.1) = (mergeKD kds more).map (·.1) ∧ RelDs g F ((mergeKD kds more).map (·.2)) ((mergeK kvs mv).map (·.2))
  | [], [], _, _, _, _, h, r => ⟨h, r⟩
  | [], _ :: _, _, _, h, _, _, _ => by cases h
  | _ :: _, [], _, _, h, _, _, _ => by cases h
  | (k, d) :: more, (k', v) :: mv, kds, kvs, h, r, h2, r2 => by
    obtain ⟨e1, e2⟩ := List.cons.inj h
    have e1 : k' = k := e1
    subst e1
    obtain ⟨u, rest, e3, ru, rr⟩ := r.cons_inv
    obtain ⟨rfl, rfl⟩ := List.cons.inj e3
    obtain ⟨h3, r3⟩ := putKD_rel (k := k') ru h2 r2
    exact mergeKD_rel (more := more) (mv := mv) e2 rr h3 r3
theorem put_new' {kvs : List (Key × D)} {k : Key} {v : D} (h : k ∉ kvs.map (·.1)) : putKD kvs k v = kvs ++ [(k, v)] := by
  unfold putKD
  rw [if_neg]
  intro h2
  obtain ⟨kv, h3, h4⟩ := List.any_eq_true.mp h2
  exact h (List.mem_map.mpr ⟨kv, h3, of_decide_eq_true h4⟩)
theorem mergeKD_app : ∀ {more kvs : List (Key × D)}, (kvs.map (·.1) ++ more.map (·.1)).Nodup → mergeKD kvs more = kvs ++ more
  | [], kvs, _ => by simp [mergeKD]
  | (k, v) :: more, kvs, nd => by
    have hk : k ∉ kvs.map (·.1) := fun h => (List.nodup_append.mp nd).2.2 _ h _ (by simp) rfl
    show mergeKD (putKD kvs k v) more = _
    rw [put_new' hk, mergeKD_app (by simpa using nd)]
    simp
theorem mergeKD_nil {more : List (Key × D)} (nd : (more.map (·.1)).Nodup) : mergeKD [] more = more := by rw [mergeKD_app (by simpa using nd)]; rfl
/-- {k: v, ..}: what becomes of it -/
def dspO (ps : List (D × D)) : Option (List (Key × D)) := (keysD ps).bind fun kds => if kds.length ≤ 15 then some (mergeKD [] kds) else none
def dicE (m : Env → M Ex (List (D × D))) : Env → M Ex D := fun ρ => bindM (noX (m ρ)) fun ps => bindM (seeM fun _ => dspO ps) fun kvs => pureM (.dic (kvs.map (·.1)) (kvs.map (·.2)))
def dicM (m : Env → M Ex (List (D × D))) : Env → M Ex D := fun ρ => bindM (noX (m ρ)) fun ps => bindM (seeM fun _ => dspO ps) fun kvs => newM (.dic kvs)
theorem dsp_go {keys : List (Option Expr)} {values : List Expr} {m : Env → M Ex (List (D × D))} {k : List (Key × D) → M Ex D} {Q : VK} {trs : List (TE × TE)} (hp : ∀ σ H Q, tX g (RelPs g) W m σ H Q → tPairs trs σ H Q) (hm : ∀ ρ, Mono (m ρ)) (hk : ∀ kvs, Mono (k kvs))
    (hk2 : ∀ (Z F H : Hp) (st : S) (p : Addr) (kds : List (Key × D)) (kvs : List (Key × V)) (Q : VK) (E : Ex → S → Prop), Z p = none → Sim g (upd Z p (.dK kvs)) st F H → kvs.map (·.1) = kds.map (·.1) → RelDs g F (kds.map (·.2)) (kvs.map (·.2)) → k kds st (Res g (RelD g) Z F Q) E → Q (.ref p) H)
    (h : tX g (RelD g) W (fun ρ => bindM (noX (m ρ)) fun ps => bindM (seeM fun _ => dspO ps) k) σ H Q) : tDisp trs σ H Q := by
  obtain ⟨Z, F, st, ρ, E, N, q⟩ := h
  intro p np
  refine hp _ _ _ ⟨upd Z p (.dK []), F, st, ρ, fun _ _ _ => False, ⟨N.sim.pinNew np, N.env, fun _ _ _ _ _ _ _ _ _ _ _ _ z => z.elim⟩, hm ρ _ _ _ _ _ (fun ps s' z vs F' H' e sim r => ?_) (fun _ _ z => z) q⟩
  obtain ⟨kds, hd, z⟩ := z
  obtain ⟨kds0, h1, h2⟩ := Option.bind_eq_some_iff.mp hd
  split at h2
  · rename_i hl
    cases (Option.some.inj h2)
    obtain ⟨kvs, rfl, h3, h4⟩ := keysD_rel r h1
    have hp2 : H' p = some (.dK []) := (sim.pin p _ upd_same).2.2
    have hZ : Z p = none := by
      cases hz : Z p with
      | none => rfl
      | some o => rw [(N.sim.pin p o hz).2.2] at np; cases np
    refine ⟨hp2, kvs, rfl, by have := congrArg List.length h3; simp at this; omega, ?_⟩
    obtain ⟨h5, h6⟩ := mergeKD_rel (g := g) (F := F') (more := kds0) (mv := kvs) (kds := []) (kvs := []) h3 h4 rfl .nil
    exact hk2 Z F' _ s' p _ _ Q _ hZ sim.pinSet h5 h6 (hk _ _ _ _ _ _ (fun _ _ w => w.mono e) (fun _ _ w => w) z)
  · cases h2
theorem fe_dicE {keys : List (Option Expr)} {values : List Expr} {m : Env → M Ex (List (D × D))} (h : FPs g X W pos keys values m) (hall : keys.all (·.isSome) = true) (hl : keys.length = values.length) (h0 : keys ≠ []) (h15 : keys.length ≤ 15) : FE g X W (.Dict keys values pos) (dicE m) := by
  obtain ⟨⟨trs, h1, h2⟩, h3⟩ := h
  refine ⟨PE.imp (pe_disp h1 hall hl h0 h15) fun σ H Q q => dsp_go (keys := keys) (values := values) h2 h3 (fun _ => mono_pure _) (fun Z F H st p kds kvs Q E z sim e1 r q => ?_) q, fun ρ => mono_bind (mono_noX (h3 ρ)) fun _ => mono_bind (mono_see _) fun _ => mono_pure _⟩
  have nF := (sim.pin p _ upd_same).1
  have s := same_upd (o := .dK kvs) nF
  exact q _ _ _ s (sim.pinKeep z) (by unfold RelD; exact ⟨p, kvs, rfl, upd_same, e1, r.mono s⟩)
theorem fe_dicM {keys : List (Option Expr)} {values : List Expr} {m : Env → M Ex (List (D × D))} (h : FPs g X W pos keys values m) (hall : keys.all (·.isSome) = true) (hl : keys.length = values.length) (h0 : keys ≠ []) (h15 : keys.length ≤ 15) : FE g X W (.Dict keys values pos) (dicM m) := by
  obtain ⟨⟨trs, h1, h2⟩, h3⟩ := h
  refine ⟨PE.imp (pe_disp h1 hall hl h0 h15) fun σ H Q q => dsp_go (keys := keys) (values := values) h2 h3 (fun _ => mono_new) (fun Z F H st p kds kvs Q E z sim e1 r q => ?_) q, fun ρ => mono_bind (mono_noX (h3 ρ)) fun _ => mono_bind (mono_see _) fun _ => mono_new⟩
  obtain ⟨nF, nS, hh⟩ := sim.pin p _ upd_same
  exact q p nS _ F H (Same.refl _) (sim.pinPut z ⟨kvs, hh, e1, r⟩) relD_ref
instance : MB prsN := ⟨fun _ => mono_pure _⟩
instance {k v : Env → M Ex D} {r : Env → M Ex (List (D × D))} [MB k] [MB v] [MB r] : MB (prsC k v r) := ⟨fun ρ => mono_bind (MB.mono ρ) fun _ => mono_bind (MB.mono ρ) fun _ => mono_bind (MB.mono ρ) fun _ => mono_pure _⟩
instance {m : Env → M Ex (List (D × D))} [MB m] : MB (dicE m) := ⟨fun ρ => mono_bind (mono_noX (MB.mono ρ)) fun _ => mono_bind (mono_see _) fun _ => mono_pure _⟩
instance {m : Env → M Ex (List (D × D))} [MB m] : MB (dicM m) := ⟨fun ρ => mono_bind (mono_noX (MB.mono ρ)) fun _ => mono_bind (mono_see _) fun _ => mono_new⟩
/-! dict(d) -/
theorem dic_rd {d : D} {v : V} {kds : List (Key × D)} (sim : Sim g Z st F H) (r : RelD g F d v) (h : dicOf st d = some kds) : ∃ a kvs, v = .ref a ∧ H a = some (.dK kvs) ∧ kvs.map (·.1) = kds.map (·.1) ∧ RelDs g F (kds.map (·.2)) (kvs.map (·.2)) := by
  cases d with
  | dic ks vs =>
    cases (Option.some.inj h)
    unfold RelD at r
    obtain ⟨a, kvs, rfl, h1, h2, h3⟩ := r
    have hl : ks.length = vs.length := by rw [← h2, ← h3.len]; simp
    refine ⟨a, kvs, rfl, sim.same _ _ h1, ?_, ?_⟩
    · rw [h2, List.map_fst_zip (Nat.le_of_eq hl)]
    · rw [List.map_snd_zip (Nat.le_of_eq hl.symm)]; exact h3
  | ref a =>
    unfold RelD at r
    subst r
    cases e : st.map a with
    | none => rw [show dicOf st (.ref a) = obK (st.map a) from rfl, e] at h; cases h
    | some o =>
      rw [show dicOf st (.ref a) = obK (st.map a) from rfl, e] at h
      cases o with
      | dic kvs =>
        cases (Option.some.inj h)
        obtain ⟨_, vs, h1, h2, h3⟩ := sim.ob a _ e
        exact ⟨a, vs, rfl, h1, h2, h3⟩
      | _ => cases h
  | _ => cases h
def dcpO (ds : List D) (st : S) : Option (List (Key × D)) := (one ds).bind fun d => dicOf st d
def dcpE (a : Env → M Ex (List D)) : Env → M Ex D := fun ρ => bindM (a ρ) fun ds => bindM (seeM (dcpO ds)) fun kvs => pureM (.dic (kvs.map (·.1)) (kvs.map (·.2)))
def dcpM (a : Env → M Ex (List D)) : Env → M Ex D := fun ρ => bindM (a ρ) fun ds => bindM (seeM (dcpO ds)) fun kvs => newM (.dic kvs)
instance {a : Env → M Ex (List D)} [MB a] : MB (dcpE a) := ⟨fun ρ => mono_bind (MB.mono ρ) fun _ => mono_bind (mono_see _) fun _ => mono_pure _⟩
instance {a : Env → M Ex (List D)} [MB a] : MB (dcpM a) := ⟨fun ρ => mono_bind (MB.mono ρ) fun _ => mono_bind (mono_see _) fun _ => mono_new⟩
theorem dcp_go {a : Env → M Ex (List D)} {k : List (Key × D) → M Ex D} {Q : VK} (hm : ∀ ρ, Mono (a ρ)) (hk : ∀ kvs, Mono (k kvs))
    (hk2 : ∀ (Z F H : Hp) (st : S) (p : Addr) (kds : List (Key × D)) (kvs : List (Key × V)) (Q : VK) (E : Ex → S → Prop), H p = none → Sim g Z st F H → kvs.map (·.1) = kds.map (·.1) → RelDs g F (kds.map (·.2)) (kvs.map (·.2)) → k kds st (Res g (RelD g) Z F Q) E → Q (.ref p) (upd H p (.dK kvs)))
    (h : tX g (RelD g) W (fun ρ => bindM (a ρ) fun ds => bindM (seeM (dcpO ds)) k) σ H Q) : tX g (RelDs g) W a σ H fun xs H => ∃ (a : Addr) (kvs : List (Key × V)), xs = [.ref a] ∧ Rd H a (.dK kvs) ∧ ∀ p, H p = none → Q (.ref p) (upd H p (.dK kvs)) := by
  obtain ⟨Z, F, st, ρ, E, N, q⟩ := h
  refine tX.go (R1 := RelDs g) N (hm ρ) (fun _ => mono_bind (mono_see _) hk) q fun ds vs F st H1 e N r q => ?_
  obtain ⟨kds, ed, q⟩ := q
  obtain ⟨d1, h0, h1⟩ := Option.bind_eq_some_iff.mp ed
  cases one_inv h0
  obtain ⟨v, vs, rfl, r1, r2⟩ := r.cons_inv
  rw [r2.nil_inv]
  obtain ⟨a, kvs, rfl, h2, h3, h4⟩ := dic_rd N.sim r1 h1
  exact ⟨a, kvs, rfl, .of h2, fun p np => hk2 Z F H1 st p kds kvs Q _ np N.sim h3 h4 q⟩
theorem fe_dcpE {a : Env → M Ex (List D)} (hg : Gl X "dict") (hm : X.mg "dict" = none) (ha : FA g X W (e :: es) a) (he : starEach (e :: es) X.env = (false, eval e X.env) :: starEach es X.env := by rfl) (hpl : (backTo pos (starEach es X.env)).any (·.1) = false := by rfl) :
    FE g X W (.Call (.Name "dict" p) (e :: es) [] pos) (dcpE a) :=
  ⟨PE.imp (pe_callTy call_dictD hg hm (by decide +kernel) ha.pa (by decide) (by decide) he hpl) fun σ H Q q => dcp_go ha.mono (fun _ => mono_pure _) (fun Z F H st p kds kvs Q E np sim e1 r q => by
    have s := same_upd (o := .dK kvs) (sim.free np).1
    exact q _ _ _ s (sim.new np) (by unfold RelD; exact ⟨p, kvs, rfl, upd_same, e1, r.mono s⟩)) q, fun ρ => mono_bind (ha.mono ρ) fun _ => mono_bind (mono_see _) fun _ => mono_pure _⟩
theorem fe_dcpM {a : Env → M Ex (List D)} (hg : Gl X "dict") (hm : X.mg "dict" = none) (ha : FA g X W (e :: es) a) (he : starEach (e :: es) X.env = (false, eval e X.env) :: starEach es X.env := by rfl) (hpl : (backTo pos (starEach es X.env)).any (·.1) = false := by rfl) :
    FE g X W (.Call (.Name "dict" p) (e :: es) [] pos) (dcpM a) :=
  ⟨PE.imp (pe_callTy call_dictD hg hm (by decide +kernel) ha.pa (by decide) (by decide) he hpl) fun σ H Q q => dcp_go ha.mono (fun _ => mono_new) (fun Z F H st p kds kvs Q E np sim e1 r q => by
    obtain ⟨nF, nS⟩ := sim.free np
    exact q p nS _ F _ (Same.refl _) (sim.put nF (.inl np) ⟨kvs, upd_same, e1, r⟩) relD_ref) q, fun ρ => mono_bind (ha.mono ρ) fun _ => mono_bind (mono_see _) fun _ => mono_new⟩
/-! isinstance(x, (c, ..)) -/
def isiTs (cs : List Str) (ms : List String) (st : S) (x : D) : Option Bool := match tyS st x with
  | some t => some (ms.any fun m => subT t m)
  | none => (clsS st x).bind fun c' => if c' ∈ cs then some false else none
def lowT : List String := ["bool", "int", "str", "tuple", "list", "dict"]
theorem kitAny_all {K : PySem.W.Frag} {t : Value} (f : String → Bool) : ∀ {ms : List String}, (∀ m ∈ ms, PySem.W.kitOne K t (.type m) = some (f m)) → PySem.W.kitAny K t (ms.map Value.type) = some (ms.any f)
  | [], _ => rfl
  | m :: ms, h => by
    rw [List.map_cons]
    unfold PySem.W.kitAny
    rw [h m List.mem_cons_self, List.any_cons]
    cases f m with
    | true => rfl
    | false => exact kitAny_all f fun m' hm => h m' (List.mem_cons_of_mem _ hm)
theorem tys_rel : ∀ {ms : List String} {vs : List V}, RelDs g F (ms.map D.ty) vs → vs = ms.map V.ty
  | [], _, r => r.nil_inv
  | m :: ms, _, r => by
    obtain ⟨v, vs, rfl, r1, r2⟩ := r.cons_inv
    unfold RelD at r1
    rw [r1, tys_rel r2]; rfl
theorem tys_cls : ∀ (ms : List String), Paired ClsV (ms.map V.ty) (ms.map Value.type)
  | [] => .nil
  | m :: ms => .cons (.ty m) (tys_cls ms)
def isiE (cs : List Str) (ms : List String) (a : Env → M Ex D) : Env → M Ex D := fun ρ => bindM (a ρ) fun x => seeM fun st => (isiTs cs ms st x).map .bl
instance {cs : List Str} {ms : List String} {a : Env → M Ex D} [MB a] : MB (isiE cs ms a) := ⟨fun ρ => mono_bind (MB.mono ρ) fun _ => mono_see _⟩
theorem fe_isiT {cs : List Str} {ms : List String} {a : Env → M Ex D} {m : Env → M Ex (List D)} {ts : List Expr} {x1} {tp : Pos} (hK : X.K = g.K) (o : OwnTy g cs) (hms : ∀ m ∈ ms, m ∈ lowT) (hlen : ms.length ≤ 100) (hg : Gl X "isinstance") (hm : X.mg "isinstance" = none) (he : FE g X W e a) (ht : FA g X W ts m) (hm' : m = fun _ => pureM (ms.map D.ty))
    (hs1 : starEach [e, .Tuple ts x1 tp] X.env = (false, eval e X.env) :: starEach [.Tuple ts x1 tp] X.env := by rfl) (hs2 : starEach [.Tuple ts x1 tp] X.env = (false, eval (.Tuple ts x1 tp) X.env) :: starEach [] X.env := by rfl) (hpl : (backTo pos (starEach [.Tuple ts x1 tp] X.env)).any (·.1) = false := by rfl) :
    FE g X W (.Call (.Name "isinstance" p) [e, .Tuple ts x1 tp] [] pos) (isiE cs ms a) := by
  refine ⟨PE.imp (pe_callB call_isiT hg hm (by decide +kernel) (pa_cons he.pe (pa_cons (pe_tup ht.pa) pa_nil hs2) hs1) (by decide) (by decide) hs1 hpl) fun σ H Q ⟨Z, F, st, ρ, E, N, q⟩ => ?_, fun ρ => mono_bind (he.mono ρ) fun _ => mono_see _⟩
  refine tX.go N (he.mono ρ) (fun _ => mono_see _) q fun d v F st H1 e N r q => ?_
  refine ⟨Z, F, st, ρ, E, N, ?_⟩
  rw [hm']
  intro vs F' H' e2 sim r2
  have hv := tys_rel r2
  subst hv
  refine ⟨by rw [List.length_map]; exact Nat.le_trans hlen (by decide), fun p np => ?_⟩
  obtain ⟨b, eb, q⟩ := q
  obtain ⟨b, hb, rfl⟩ := Option.map_eq_some_iff.mp eb
  have nF := (sim.free np).1
  have sim2 := sim.new (o := .tup (ms.map V.ty)) np
  have e3 := same_upd (o := .tup (ms.map V.ty)) nF
  have r3 := r.mono (e2.trans e3)
  have Q2 := q (.bl b) _ _ (e2.trans e3) sim2 relD_bl
  rw [hK]
  unfold isiTs at hb
  split at hb
  · rename_i t ht
    cases hb
    exact ⟨v, p, _, .type t, _, _, rfl, upd_same, tys_cls ms, sim2.tyS r3 ht, kitAny_all (fun m => subT t m) fun m hm => kit_ty (kit_base t (tyS_base ht) m (hms m hm)), Q2⟩
  · obtain ⟨c', h1, h2⟩ := Option.bind_eq_some_iff.mp hb
    split at h2
    · rename_i hc
      cases h2
      obtain ⟨a, dx, fs, rfl, ha⟩ := sim2.clsS r3 h1
      refine ⟨_, p, _, _, _, _, rfl, upd_same, tys_cls ms, o.ins c' hc ha, ?_, Q2⟩
      have := kitAny_all (K := g.K) (t := .ref (g.cl c')) (fun _ => false) (ms := ms) fun m hm => o.low c' hc m (hms m hm)
      rw [this]; simp
    · cases h2
variable {s : S} {Q : D → S → Prop} {E : Ex → S → Prop} {QP : List (D × D) → S → Prop}
theorem x_isiE {cs : List Str} {ms : List String} {a : Env → M Ex D} : isiE cs ms a ρ s Q E = a ρ s (fun x s1 => ∃ v, ((isiTs cs ms s1 x).map D.bl) = some v ∧ Q v s1) E := rfl
theorem x_prsN : prsN ρ s QP E = QP [] s := rfl
theorem x_prsC {k v : Env → M Ex D} {r : Env → M Ex (List (D × D))} : prsC k v r ρ s QP E = k ρ s (fun x s1 => v ρ s1 (fun y s2 => r ρ s2 (fun ps s3 => QP ((x, y) :: ps) s3) E) E) E := rfl
theorem x_dicE {m : Env → M Ex (List (D × D))} : dicE m ρ s Q E = m ρ s (fun ps s1 => ∃ kvs, dspO ps = some kvs ∧ Q (.dic (kvs.map (·.1)) (kvs.map (·.2))) s1) (fun _ _ => False) := rfl
theorem x_dicM {m : Env → M Ex (List (D × D))} : dicM m ρ s Q E = m ρ s (fun ps s1 => ∃ kvs, dspO ps = some kvs ∧ ∀ a, s1.map a = none → Q (.ref a) (s1.set a (.dic kvs))) (fun _ _ => False) := rfl
theorem x_dcpE {a : Env → M Ex (List D)} : dcpE a ρ s Q E = a ρ s (fun ds s1 => ∃ kvs, dcpO ds s1 = some kvs ∧ Q (.dic (kvs.map (·.1)) (kvs.map (·.2))) s1) E := rfl
theorem x_dcpM {a : Env → M Ex (List D)} : dcpM a ρ s Q E = a ρ s (fun ds s1 => ∃ kvs, dcpO ds s1 = some kvs ∧ ∀ a, s1.map a = none → Q (.ref a) (s1.set a (.dic kvs))) E := rfl
theorem dcp_one {d : D} : dcpO [d] s = dicOf s d := rfl
theorem dsp_strs {ps : List (Str × D)} (nd : (ps.map (·.1)).Nodup) (hl : ps.length ≤ 15) : dspO (ps.map fun p => (.str p.1, p.2)) = some (ps.map fun p => (.inr p.1, p.2)) := by
  have h : ∀ ps : List (Str × D), keysD (ps.map fun p => (.str p.1, p.2)) = some (ps.map fun p => (.inr p.1, p.2)) := by
    intro ps
    induction ps with
    | nil => rfl
    | cons p ps ih => show ((keysD (ps.map fun p => (D.str p.1, p.2))).map _) = _; rw [ih]; rfl
  unfold dspO
  rw [h, Option.bind_some, if_pos (by simpa using hl), mergeKD_nil]
  rw [List.map_map]
  exact List.Pairwise.map (fun p : Str × D => (Sum.inr p.1 : Key)) (R := fun a b : Str × D => a.1 ≠ b.1) (fun a b h e => h (Sum.inr.inj e)) (List.pairwise_map.mp nd)
theorem fnok_fail {P : Program} {w : World} {K : PySem.W.Frag} {mg : Str → Option Value} {base : Heap} {CX : CXT} {k n : Nat} {f : Addr} {fd : FuncData} {ps : List Str} (hn : ps.length = n) : FnOk P w K mg base CX k f fd ps (spD g n fun _ => failM) :=
  ⟨fun vs H Q E ⟨_, _, _, _, hl, _⟩ => hl.trans hn.symm, fun _ _ _ _ _ _ _ _ _ _ _ _ _ ⟨_, _, _, _, _, _, _, q⟩ => q.elim⟩
/-! xs[i] = v -/
def setIt (x k v : D) : M (Ex × Env) Unit := fun s Q _ => ∃ a xs i j, x = .ref a ∧ s.map a = some (.lst xs) ∧ k = .int i ∧ ixN xs.length i = some j ∧ Q () (s.set a (.lst (xs.set j v)))
theorem mono_setIt {x k v : D} : Mono (setIt x k v) := fun _ _ _ _ _ hq _ ⟨a, xs, i, j, h1, h2, h3, h4, h⟩ => ⟨a, xs, i, j, h1, h2, h3, h4, hq _ _ h⟩
def itemS (o i v : Env → M Ex D) : Env → MS := fun ρ => bindM (up ρ (v ρ)) fun y => bindM (up ρ (o ρ)) fun x => bindM (up ρ (i ρ)) fun k => bindM (setIt x k y) fun _ => pureM (.nx ρ)
instance {o i v : Env → M Ex D} [MB o] [MB i] [MB v] : MB (itemS o i v) := ⟨fun ρ => mono_bind (mono_up (MB.mono ρ)) fun _ => mono_bind (mono_up (MB.mono ρ)) fun _ => mono_bind (mono_up (MB.mono ρ)) fun _ => mono_bind mono_setIt fun _ => mono_pure _⟩
theorem fs_lput {e3 : Expr} {o i v : Env → M Ex D} {p' : Pos} (ho : FE g X W e1 o) (hi : FE g X W e2 i) (hv : FE g X W e3 v) (hs : swapsWithSole [.Subscript e1 e2 p'] e3 pos.line X.env = pure false := by rfl) (hw : swappedStores [.Subscript e1 e2 p'] e3 X.env = pure none := by rfl) (h1 : (assignEach [.Subscript e1 e2 p'] X.env).map (·.2) = [assign (.Subscript e1 e2 p') X.env] := by rfl)
    (ha : ∀ v, assign (.Subscript e1 e2 p') X.env v = (do
      let ov ← holding [v] (eval e1 X.env)
      let iv ← holding [v, ov] (eval e2 X.env)
      standAt p'
      holding [v, ov, iv] (setItem ov iv v)
      release [v, ov, iv] []) := by intro _; rfl) :
    FS g X W (.Assign [.Subscript e1 e2 p'] e3 pos) (itemS o i v) := by
  have m3 : ∀ ρ y x k, Mono (bindM (setIt x k y) fun _ => (pureM (.nx ρ) : MS)) := fun ρ y x k => mono_bind mono_setIt fun _ => mono_pure _
  have m2 : ∀ ρ y x, Mono (bindM (up ρ (i ρ)) fun k => bindM (setIt x k y) fun _ => (pureM (.nx ρ) : MS)) := fun ρ y x => mono_bind (mono_up (hi.mono ρ)) (m3 ρ y x)
  have m1 : ∀ ρ y, Mono (bindM (up ρ (o ρ)) fun x => bindM (up ρ (i ρ)) fun k => bindM (setIt x k y) fun _ => (pureM (.nx ρ) : MS)) := fun ρ y => mono_bind (mono_up (ho.mono ρ)) (m2 ρ y)
  refine ⟨PS.imp (ps_asg hv.pe (pg_sub ho.pe hi.pe set_list ha) hs hw h1) fun D σ H ⟨Z, F, st, ρ, E, N, q⟩ => tS.go N (hv.mono ρ) (m1 ρ) q fun dy y F st H1 e N ry q => tS.go (R1 := RelD g) N (ho.mono ρ) (m2 ρ _) q fun dx x F2 st H2 e2 N rx q => tS.go (R1 := RelD g) N (hi.mono ρ) (m3 ρ _ _) q fun dk k F3 st H3 e3 N rk q => ?_,
    fun ρ => mono_bind (mono_up (hv.mono ρ)) (m1 ρ)⟩
  obtain ⟨a, xs, i, j, rfl, hm, rfl, hj, q⟩ := q
  unfold RelD at rx rk
  subst rx rk
  obtain ⟨nF, vs, h1, h2⟩ := N.sim.ob a _ hm
  refine ⟨a, vs, i, j, rfl, rfl, h1, by rw [h2.len]; exact hj, ?_⟩
  exact q σ F3 _ (Same.refl _) (N.sim.put nF (.inr ⟨_, hm, by intro z; cases z⟩) ⟨_, upd_same, h2.set ((ry.mono e2).mono e3) j⟩) N.env
theorem x_itemS {a b c : Env → M Ex D} {QF : Fl → S → Prop} {EE : Ex × Env → S → Prop} : itemS a b c ρ s QF EE = c ρ s (fun y s1 => a ρ s1 (fun x s2 => b ρ s2 (fun k s3 => setIt x k y s3 (fun _ s4 => QF (.nx ρ) s4) EE) (fun x s' => EE (x, ρ) s')) (fun x s' => EE (x, ρ) s')) (fun x s' => EE (x, ρ) s') := rfl
theorem x_setItS {a : Addr} {xs : List D} {i : Int} {v : D} {QU : Unit → S → Prop} {EE : Ex × Env → S → Prop} : setIt (.ref a) (.int i) v (s.set a (.lst xs)) QU EE = ∃ j, ixN xs.length i = some j ∧ QU () (s.set a (.lst (xs.set j v))) := by
  refine propext ⟨fun ⟨a', xs', i', j, e, h1, e2, h2, h3⟩ => ?_, fun ⟨j, h2, h3⟩ => ⟨a, xs, i, j, rfl, S.set_same, rfl, h2, by rw [S.set_set]; exact h3⟩⟩
  cases e
  cases e2
  rw [S.set_same] at h1
  cases h1
  rw [S.set_set] at h3
  exact ⟨j, h2, h3⟩
/-- a keyword's default that is a tuple -/
def kwAd (K : PySem.W.Frag) (f : Addr) (x : Str) : Addr := match K.lookup f with
  | some ⟨_, _, .func fd, _⟩ => (match fd.kwdefaults with
    | .ref D => (match PySem.W.nsIn K D x with
      | some (some (.ref t)) => t
      | _ => 0)
    | _ => 0)
  | _ => 0
theorem fe_neg {i : Int} {k} {p1 : Pos} : FE g X W (.UnaryOp .USub (.Constant (.int i) k p1) pos) (cst (.int (-i))) :=
  ⟨PE.imp (pe_un un_neg pe_int) fun σ H Q ⟨Z, F, st, ρ, E, N, q⟩ => ⟨i, rfl, tX.done N relD_int q⟩, fun _ => mono_pure _⟩
end
end DL

namespace DL
def runs_D20 := And.intro @x_isiE (And.intro @x_prsN (And.intro @x_prsC (And.intro @x_dicE (And.intro @x_dicM (And.intro @x_dcpE (And.intro @x_dcpM (And.intro @dcp_one (And.intro @x_itemS (@x_setItS)))))))))
end DL
/-! ### exceptions: several clauses, with and without a name -/
namespace DL
open PySem PySem.Spec PyProof.Rows L2
/-- one clause: its class, the slot of its name, its suite's reading -/
structure Clz where
  c : Value
  i : Option Nat
  ts : Addr → Value → Option Addr → TS
def clrS : Option Nat → L2.St → L2.St
  | none, σ => σ
  | some i, σ => σ.set i none
def putS : Option Nat → Addr → L2.St → L2.St
  | none, _, σ => σ
  | some i, a, σ => σ.set i (some (.ref a))
def endsC (i : Option Nat) (D : Ends) : Ends := { nx := fun σ H => D.nx (clrS i σ) H, rt := D.rt, bk := fun σ H => D.bk (clrS i σ) H, ct := fun σ H => D.ct (clrS i σ) H }
def wClz (K : PySem.W.Frag) (Wo : WX) (D : Ends) : List Clz → WX
  | [] => Wo
  | z :: r => fun cls d σ H => ∃ b, PySem.W.exmOne K cls z.c = some b ∧ (b = true → ∀ a, H a = none → z.ts a cls d (endsC z.i D) (putS z.i a σ) H) ∧ (b = false → wClz K Wo D r cls d σ H)
inductive ClzOk (X : Cx) : List ExceptHandler → List Clz → Prop
  | nil : ClzOk X [] []
  | plain {x : Str} {z : Clz} {b0 : Stmt} {bs : List Stmt} {p1 p2 : Pos} {hs : List ExceptHandler} {l : List Clz} (hi : z.i = none) (hc : Names X x z.c)
      (su : ∀ a oe cls d pn, Zc cls d oe → (∃ vs, oe.data = .fields vs) → PSs (X.suite a ((a, oe) :: pn)) (b0 :: bs) (z.ts a cls d)) (r : ClzOk X hs l) :
      ClzOk X (.ExceptHandler (some (.Name x p1)) none (b0 :: bs) p2 :: hs) (z :: l)
  | named {x n : Str} {i : Nat} {z : Clz} {b0 : Stmt} {bs : List Stmt} {p1 p2 : Pos} {hs : List ExceptHandler} {l : List Clz} (hi : z.i = some i) (hn : X.N[i]? = some n) (hl : X.env.kindOf n = some .local) (hc : Names X x z.c)
      (su : ∀ a oe cls d pn, Zc cls d oe → (∃ vs, oe.data = .fields vs) → PSs (X.suite a ((a, oe) :: pn)) (b0 :: bs) (z.ts a cls d)) (r : ClzOk X hs l) :
      ClzOk X (.ExceptHandler (some (.Name x p1)) (some n) (b0 :: bs) p2 :: hs) (z :: l)
section
variable {X : Cx} {body : List Stmt} {h0 : ExceptHandler} {hds : List ExceptHandler} {l : List Clz} {pos : Pos} {tb : WX → TS} {Wo : WX}
theorem ps_clz (hs : X.stack = X.env :: X.outer) (hf : X.env.frame = some X.env.locals) (hN : X.N.Nodup) (tk : Takes X Wo)
    (hb : ∀ W pn xe, Takes (X.tr pn xe) W → PassesOwn (model X.prog X.w) X.A X.env xe → PSs (X.tr pn xe) body (tb W)) (hh : ClzOk X (h0 :: hds) l) :
    PS X (.Try body (h0 :: hds) [] [] pos) (fun D σ H => tb (wClz X.K Wo D l) D σ H) := by
  refine ⟨fun pins s σ H D I h => wpAny_Try_except ?_⟩
  have ok := I.ok
  have hfr : X.A.frames = some (X.env :: X.outer) := ok.frames.trans (congrArg some hs)
  refine wpAny_mono ((hb (wClz X.K Wo D l) (X.pn ++ pins) _ (fun u s' xx => ?_) PassesOwn.looking).run [] s σ H D (I.toTry _) h) (fun f s1 hsp => ?_) (fun _ _ z => z)
  · obtain ⟨a, B, sI, pins', σ1, H1, cls, d, rfl, J0, nb, up, sky, na, os, ag, w⟩ := xx
    have J := J0.ofTry ok
    show wpAny (model X.prog X.w) X.A (noteFrame (.ref a) X.env) _ _ _
    refine Sky.land Zc.steady hfr hf (hs ▸ sky) fun h3 fl up3 => ?_
    obtain ⟨oe, ve, he, hz, hd⟩ := fl.there
    have nfr : a ∉ frs (X.env :: X.outer) := fun hm => by
      obtain ⟨_, o, e1, e2⟩ := fl.2.2.1.mem hm
      have e3 := Option.some.inj (he.symm.trans e1)
      subst e3
      exact e2 _ hd
    have nL : a ≠ X.env.locals := fun z => nfr (List.mem_filterMap.mpr ⟨_, List.mem_cons_self, hf.trans (congrArg some z.symm)⟩)
    have nF : a ∉ X.fs := fun hm => let ⟨e, m, q⟩ := List.mem_filterMap.mp hm; nfr (List.mem_filterMap.mpr ⟨e, List.mem_cons_of_mem _ m, q⟩)
    have J3 : Inv X pins σ1 H1 { s' with heap := h3 } := J.landed nb fl.1 (up.trans up3) os ag
    have S3 := J3.suite he hd na nL nF
    have test : ∀ {x : Str} {c : Value} {np : Pos} {Q E : Value → Shared → Prop}, Names X x c → Q c { s' with heap := h3 } → wpAny (model X.prog X.w) (X.A.mark (some (.ref a))) (eval (.Name x np) X.env) Q E { s' with heap := h3 } := fun {x c np Q E} hc q => by
      rcases hc with ⟨hg, hdb, hm | ⟨hm, hv, hnn⟩⟩
      · exact ld_glob (X := X.suite a ((a, oe) :: (X.pn ++ pins))) S3 hg hm q hdb
      · exact ld_blt (X := X.suite a ((a, oe) :: (X.pn ++ pins))) S3 hg hm hv q hnn hdb
    have LT : PySem.W.Looks (model X.prog X.w) h3 (typeOf (.ref a)) cls := fun A Q E s k q => wpAny_typeOf_ref (k _ _ he) (hz.1 ▸ q)
    have go : ∀ {hs' : List ExceptHandler} {l' : List Clz}, ClzOk X hs' l' → wClz X.K Wo D l' cls d σ1 H1 → wpAny (model X.prog X.w) X.A (handleBy (.ref a) X.env hs') (SP X pins D) X.xe { s' with heap := h3 } := by
      intro hs' l' hk
      induction hk with
      | nil =>
        intro w
        obtain ⟨k1, k2, k3, oe', vs, T, oT, ts', e1, e2, e3, e4, e5⟩ := id fl
        have out : wpAny (model X.prog X.w) X.A (setFlight (.ref a) X.env.frame) (fun _ s4 => wpAny (model X.prog X.w) X.A (throw (.ref a) : Sem Flow) (SP X pins D) X.xe s4) X.xe { s' with heap := h3 } := by
          rw [hf]
          exact HandSPX.setFlight_upZ fl fun h4 hh4 up4 => wpAny_throw (tk _ _ ⟨a, B, sI, pins, σ1, H1, cls, d, rfl, J, nb, (up.trans up3).trans up4, .inr (.inr (hs ▸ hh4)), na, os, ag, w⟩)
        refine wpAny_handleBy_nil ?_
        unfold PySem.passOn
        refine wpAny_bind (wpAny_field e1 e3 e4 ?_)
        rw [if_neg (by simp : ¬ ((Value.ref T == Value.none) = true))]
        first
          | exact wpAny_bind (wpAny_pure (wpAny_bind out))
          | exact wpAny_bind out
      | @plain x z b0 bs p1 p2 hs2 l2 hi hc su r ih =>
        rintro ⟨b, hb1, yes, no⟩
        rw [hi] at yes
        refine wpAny_handleBy_cons (codeAny_handlers_test (test hc ((PySem.W.exm_one (M := model X.prog X.w) J3.kIn LT hb1).here ?_))) (by intro q; cases q)
        cases b with
        | false => exact ih (no rfl)
        | true =>
          refine codeAny_handlers_suite (HandSPX.lands_againZ fl fun h4 fl4 up4 => ?_)
          obtain ⟨oe4, _, he4, hz4, hd4⟩ := fl4.there
          have S4 := (J.landed nb fl4.1 ((up.trans up3).trans up4) os ag : Inv X pins σ1 H1 { s' with heap := h4 }).suite he4 hd4 na nL nF
          refine wpAny_mono ((su a oe4 cls d (X.pn ++ pins) hz4 ⟨_, hd4⟩).run [] _ _ H1 _ S4 (yes rfl a na)) (fun f s6 hsp => ?_) (fun _ _ z => False.elim z)
          cases f with
          | ret u => obtain ⟨v6, σ6, H6, S6, r6, q6⟩ := hsp; exact ⟨_, _, _, S6.unsuite ok, r6, q6⟩
          | next => obtain ⟨σ6, H6, S6, q6⟩ := hsp; exact ⟨_, _, S6.unsuite ok, q6⟩
          | brk => obtain ⟨σ6, H6, S6, q6⟩ := hsp; exact ⟨_, _, S6.unsuite ok, q6⟩
          | cont => obtain ⟨σ6, H6, S6, q6⟩ := hsp; exact ⟨_, _, S6.unsuite ok, q6⟩
      | @named x n i z b0 bs p1 p2 hs2 l2 hi hn hl hc su r ih =>
        rintro ⟨b, hb1, yes, no⟩
        rw [hi] at yes
        refine wpAny_handleBy_cons (codeAny_handlers_test (test hc ((PySem.W.exm_one (M := model X.prog X.w) J3.kIn LT hb1).here ?_))) (by intro q; cases q)
        cases b with
        | false => exact ih (no rfl)
        | true =>
          refine codeAny_handlers_suite_as (HandSPX.lands_againZ fl fun h4 fl4 up4 => ?_)
          obtain ⟨oe4, _, he4, hz4, hd4⟩ := fl4.there
          have S4 := (J.landed nb fl4.1 ((up.trans up3).trans up4) os ag : Inv X pins σ1 H1 { s' with heap := h4 }).suite he4 hd4 na nL nF
          refine store_ok (X := X.suite a ((a, oe4) :: (X.pn ++ pins))) (v := .ref a) S4 hN hn (.inl hl) rfl (fun s5 S5 => ?_) (.inr hl)
          refine wpAny_mono ((su a oe4 cls d (X.pn ++ pins) hz4 ⟨_, hd4⟩).run [] s5 _ H1 _ S5 (yes rfl a na)) (fun f s6 hsp => ?_) (fun _ _ z => False.elim z)
          cases f with
          | ret u => obtain ⟨v6, σ6, H6, S6, r6, q6⟩ := hsp; exact gone_ok (S6.unsuite ok) hN hn hl fun s7 J7 => ⟨_, _, _, J7, r6, q6⟩
          | next => obtain ⟨σ6, H6, S6, q6⟩ := hsp; exact gone_ok (S6.unsuite ok) hN hn hl fun s7 J7 => ⟨_, _, J7, q6⟩
          | brk => obtain ⟨σ6, H6, S6, q6⟩ := hsp; exact gone_ok (S6.unsuite ok) hN hn hl fun s7 J7 => ⟨_, _, J7, q6⟩
          | cont => obtain ⟨σ6, H6, S6, q6⟩ := hsp; exact gone_ok (S6.unsuite ok) hN hn hl fun s7 J7 => ⟨_, _, J7, q6⟩
    exact go hh w
  · cases f with
    | ret u => obtain ⟨v, σ1, H1, J, r, q⟩ := hsp; exact ⟨v, σ1, H1, J.ofTry ok, r, q⟩
    | next => obtain ⟨σ1, H1, J, q⟩ := hsp; exact wpAny_execs_nil ⟨σ1, H1, J.ofTry ok, q⟩
    | brk => obtain ⟨σ1, H1, J, q⟩ := hsp; exact ⟨σ1, H1, J.ofTry ok, q⟩
    | cont => obtain ⟨σ1, H1, J, q⟩ := hsp; exact ⟨σ1, H1, J.ofTry ok, q⟩
end
end DL

/-! ### raise, try over data -/
namespace DL
open PySem L2
section
variable {g : G} {Z F F' H H' : Hp} {W : WX} {σ : St} {ρ : Env} {st : S} {X : Cx} {e : Expr} {es : List Expr} {pos p : Pos} {a : Addr} {cls : Value} {d : Option Addr} {i : Option Nat}
theorem RelEx.mono {u : Value} {x : Ex} (s : Same F F') (h : RelEx g F u d x) : RelEx g F' u d x := by
  obtain ⟨h1, h2 | ⟨a, fs, h2, h3, h4, h5⟩⟩ := h
  · exact ⟨h1, .inl h2⟩
  · exact ⟨h1, .inr ⟨a, fs, h2, s _ _ h3, h4, h5.mono s⟩⟩
/-- values in a clause's suite: of the exception's fields, of locals -/
abbrev XM (α : Type) := Ex → Env → Option α
def tV {α β : Type} (g : G) (R : Hp → α → β → Prop) (i : Option Nat) (a : Addr) (cls : Value) (d : Option Addr) (m : XM α) : St → Hp → (β → Hp → Prop) → Prop := fun σ H Q => ∃ x ρ Z F st dv, RelEx g F cls d x ∧ Sim g Z st F H ∧ REnv g F σ ρ ∧ (∀ k, i = some k → σ[k]? = some (some (.ref a))) ∧ m x ρ = some dv ∧ Res g R Z F Q dv st
def XV (g : G) (X : Cx) (i : Option Nat) (a : Addr) (cls : Value) (d : Option Addr) (e : Expr) (m : XM D) : Prop := PE X e (tV g (RelD g) i a cls d m)
def XVs (g : G) (X : Cx) (i : Option Nat) (a : Addr) (cls : Value) (d : Option Addr) (es : List Expr) (m : XM (List D)) : Prop := PA X es (tV g (RelDs g) i a cls d m)
def xC (dv : D) : XM D := fun _ _ => some dv
def xF (c f : Str) : XM D := fun x _ => if x.c = c then (x.ns.zip x.vs).lookup f else none
def xN : XM (List D) := fun _ _ => some []
def xS (m : XM D) (ms : XM (List D)) : XM (List D) := fun x ρ => (m x ρ).bind fun y => (ms x ρ).map fun ys => y :: ys
def xT (ms : XM (List D)) : XM D := fun x ρ => (ms x ρ).bind fun ys => if ys.length ≤ 1000 then some (.tup ys) else none
theorem xv_cst {dv : D} {v : V} (h : PE X e (tC v)) (r : ∀ F, RelD g F dv v) : XV g X i a cls d e (xC dv) := PE.imp h fun σ H Q ⟨x, ρ, Z, F, st, y, rx, sim, env, sl, em, q⟩ => by
  cases (Option.some.inj em)
  exact q v F H (Same.refl _) sim (r F)
theorem lookup_relX {f : Str} : ∀ {ns : List Str} {vs : List D} {fs : List (Str × V)} {dv : D}, fs.map (·.1) = ns → RelDs g F vs (fs.map (·.2)) → (ns.zip vs).lookup f = some dv → ∃ v, fs.lookup f = some v ∧ RelD g F dv v
  | _, [], fs, dv, _, _, h => by rw [List.zip_nil_right] at h; cases h
  | _, y :: ys, [], dv, e, r, h => by obtain ⟨_, _, e2, _, _⟩ := r.cons_inv; cases e2
  | _, y :: ys, (n, u) :: fs, dv, e, r, h => by
    subst e
    obtain ⟨v, r', e2, r1, r2⟩ := r.cons_inv
    obtain ⟨rfl, rfl⟩ := List.cons.inj e2
    rw [List.map_cons, List.zip_cons_cons, List.lookup_cons] at h
    rw [List.lookup_cons]
    cases hb : f == n with
    | true => rw [hb] at h; cases (Option.some.inj h); exact ⟨_, rfl, r1⟩
    | false => rw [hb] at h; exact lookup_relX rfl r2 h
theorem xv_fld {c f n : Str} {k : Nat} {oe : Obj} {pn : List (Addr × Obj)} {p1 : Pos} (T : XfC X.K (g.cl c)) (hno : PySem.W.findIn X.K (.ref (g.cl c)) f = some none) (hz : Zc cls d oe) (hf : ∃ vs, oe.data = .fields vs) (hN : X.N[k]? = some n) (hv : Vis X.env.scope n)
    (hd : (n == ("__debug__" : Str)) = false := by decide) (hcd : (n == ("__classdict__" : Str)) = false := by decide) (hb : attributeBase (.Name n p1) f X.env (eval (.Name n p1) X.env) = eval (.Name n p1) X.env := by rfl) :
    XV g (X.suite a ((a, oe) :: pn)) (some k) a cls d (.Attribute (.Name n p1) f pos) (xF c f) :=
  PE.imp (pe_xf T hno hz hf (pe_var (X := X.suite a ((a, oe) :: pn)) hN hv hd hcd) hb) fun σ H Q ⟨x, ρ, Z, F, st, y, rx, sim, env, sl, em, q⟩ => by
    unfold xF at em
    split at em
    · rename_i hc
      obtain ⟨h1, ⟨h2, _⟩ | ⟨dd, fs, h2, h3, h4, h5⟩⟩ := rx
      · rw [h2] at em; cases em
      · obtain ⟨v, l, r⟩ := lookup_relX h4 h5 em
        exact ⟨_, sl k rfl, rfl, by rw [h1, hc], dd, fs, v, h2, sim.same _ _ h3, l, q v F H (Same.refl _) sim r⟩
    · cases em
theorem xvs_nil : XVs g X i a cls d [] xN := PA.imp pa_nil fun σ H Q ⟨x, ρ, Z, F, st, y, rx, sim, env, sl, em, q⟩ => by
  cases (Option.some.inj em)
  exact q [] F H (Same.refl _) sim .nil
theorem xvs_cons {m : XM D} {ms : XM (List D)} (h : XV g X i a cls d e m) (k : XVs g X i a cls d es ms) (hs : starEach (e :: es) X.env = (false, eval e X.env) :: starEach es X.env := by rfl) : XVs g X i a cls d (e :: es) (xS m ms) := PA.imp (pa_cons h k hs) fun σ H Q ⟨x, ρ, Z, F, st, y, rx, sim, env, sl, em, q⟩ => by
  obtain ⟨y1, e1, em⟩ := Option.bind_eq_some_iff.mp em
  obtain ⟨ys, e2, rfl⟩ := Option.map_eq_some_iff.mp em
  refine ⟨x, ρ, Z, F, st, y1, rx, sim, env, sl, e1, fun v F1 H1 s1 sim1 r1 => ?_⟩
  refine ⟨x, ρ, Z, F1, st, ys, rx.mono s1, sim1, env.mono s1, sl, e2, fun vs F2 H2 s2 sim2 r2 => ?_⟩
  exact q (v :: vs) F2 H2 (s1.trans s2) sim2 (.cons (r1.mono s2) r2)
theorem xv_tup {ms : XM (List D)} {x1} (h : XVs g X i a cls d es ms) : XV g X i a cls d (.Tuple es x1 pos) (xT ms) := PE.imp (pe_tup h) fun σ H Q ⟨x, ρ, Z, F, st, y, rx, sim, env, sl, em, q⟩ => by
  obtain ⟨ys, e1, em⟩ := Option.bind_eq_some_iff.mp em
  split at em
  · rename_i hl
    cases (Option.some.inj em)
    refine ⟨x, ρ, Z, F, st, ys, rx, sim, env, sl, e1, fun vs F1 H1 s1 sim1 r1 => ⟨by rw [r1.len]; exact Nat.le_trans hl (by decide), fun p np => ?_⟩⟩
    have s2 := same_upd (o := .tup vs) (sim1.free np).1
    exact q (.ref p) _ _ (s1.trans s2) (sim1.new np) (by unfold RelD; exact ⟨p, vs, rfl, .inl (.inl upd_same), r1.mono s2⟩)
  · cases em
/-- the one statement of a suite -/
def tSu (g : G) (i : Option Nat) (a : Addr) (cls : Value) (d : Option Addr) (f : Ex → Env → MS) : TS := fun D σ H => ∃ x ρ Z F st, RelEx g F cls d x ∧ Sim g Z st F H ∧ REnv g F σ ρ ∧ (∀ k, i = some k → σ[k]? = some (some (.ref a))) ∧ f x ρ st (ResF g Z F D) (fun _ _ => False)
def optM {α : Type} (o : Option α) (k : α → MS) : MS := fun s Q E => ∃ v, o = some v ∧ k v s Q E
theorem mono_optM {α : Type} {o : Option α} {k : α → MS} (h : ∀ v, Mono (k v)) : Mono (optM o k) := fun s Q Q' E E' hq he ⟨v, e, z⟩ => ⟨v, e, h v s Q Q' E E' hq he z⟩
def hset (j : Nat) (m : XM D) : Ex → Env → MS := fun x ρ => optM (m x ρ) fun y => pureM (.nx (ρ.set j (some y)))
def hret (m : XM D) : Ex → Env → MS := fun x ρ => optM (m x ρ) fun y => pureM (.rt y)
def MonoH (f : Ex → Env → MS) : Prop := ∀ x ρ, Mono (f x ρ)
theorem mono_hset {j : Nat} {m : XM D} : MonoH (hset j m) := fun _ _ => mono_optM fun _ => mono_pure _
theorem mono_hret {m : XM D} : MonoH (hret m) := fun _ _ => mono_optM fun _ => mono_pure _
theorem su_set {j : Nat} {y : Str} {m : XM D} {p' : Pos} (hN : X.N.Nodup) (hi : X.N[j]? = some y) (hx : Loc X.env.scope y) (h : XV g X i a cls d e m) (hs : swapsWith e (some (.Name y p')) pos.line X.env = pure false := by rfl)
    (hf : X.fn y = true ∨ X.env.scope.names.lookup y = some .local := by first | exact .inl rfl | exact .inr rfl | assumption) : PSs X [.Assign [.Name y p'] e pos] (tSu g i a cls d (hset j m)) :=
  pss_one (PS.imp (ps_set hN hi hx h hs hf) fun D σ H ⟨x, ρ, Z, F, st, rx, sim, env, sl, dv, em, q⟩ => ⟨x, ρ, Z, F, st, dv, rx, sim, env, sl, em, fun v F1 H1 s1 sim1 r1 => q _ F1 H1 s1 sim1 ((env.mono s1).set r1)⟩)
theorem su_ret {m : XM D} (h : XV g X i a cls d e m) : PSs X [.Return (some e) pos] (tSu g i a cls d (hret m)) :=
  pss_one (PS.imp (ps_ret h) fun D σ H ⟨x, ρ, Z, F, st, rx, sim, env, sl, dv, em, q⟩ => ⟨x, ρ, Z, F, st, dv, rx, sim, env, sl, em, fun v F1 H1 s1 sim1 r1 => q v F1 H1 s1 sim1 r1⟩)
/-! try -/
structure HD where
  c : Str
  i : Option Nat
  f : Ex → Env → MS
def clrE : Option Nat → Env → Env
  | none, ρ => ρ
  | some i, ρ => ρ.set i none
def clrF (i : Option Nat) : Fl → Fl
  | .nx ρ => .nx (clrE i ρ)
  | .rt y => .rt y
  | .bk ρ => .bk (clrE i ρ)
  | .ct ρ => .ct (clrE i ρ)
def okI : Option Nat → Env → Prop
  | none, _ => True
  | some i, ρ => i < ρ.length
def suM (h : HD) (x : Ex) (ρ : Env) : MS := fun s Q _ => okI h.i ρ ∧ h.f x (clrE h.i ρ) s (fun fl s' => Q (clrF h.i fl) s') (fun _ _ => False)
def hdl (sub : Str → Str → Option Bool) : List HD → Ex → Env → MS
  | [], x, ρ => raiseM (x, ρ)
  | h :: r, x, ρ => fun s Q E => ∃ b, sub x.c h.c = some b ∧ (if b = true then suM h x ρ s Q E else hdl sub r x ρ s Q E)
def tryS (sub : Str → Str → Option Bool) (m : Env → MS) (l : List HD) : Env → MS := fun ρ s Q E => m ρ s Q (fun x s' => hdl sub l x.1 x.2 s' Q E)
theorem mono_suM {h : HD} {x : Ex} (k : MonoH h.f) : Mono (suM h x ρ) := fun s Q Q' E E' hq _ ⟨o, z⟩ => ⟨o, k _ _ s _ _ _ _ (fun fl s' z => hq _ _ z) (fun _ _ z => z) z⟩
theorem mono_hdl {sub : Str → Str → Option Bool} : ∀ {l : List HD} {x : Ex} {ρ : Env}, (∀ h ∈ l, MonoH h.f) → Mono (hdl sub l x ρ)
  | [], x, ρ, _ => mono_raise _
  | h :: r, x, ρ, k => fun s Q Q' E E' hq he ⟨b, e, z⟩ => ⟨b, e, by
    cases b with
    | true => exact mono_suM (k h List.mem_cons_self) s Q Q' E E' hq he z
    | false => exact mono_hdl (fun h' m => k h' (List.mem_cons_of_mem _ m)) s Q Q' E E' hq he z⟩
theorem mono_tryS {sub : Str → Str → Option Bool} {m : Env → MS} {l : List HD} (h : ∀ ρ, Mono (m ρ)) (k : ∀ h ∈ l, MonoH h.f) : ∀ ρ, Mono (tryS sub m l ρ) := fun ρ s Q Q' E E' hq he z => h ρ s _ _ _ _ hq (fun x s' z => mono_hdl k s' Q Q' E E' hq he z) z
class MH (l : List HD) : Prop where
  mono : ∀ h ∈ l, MonoH h.f
class MHf (f : Ex → Env → MS) : Prop where
  mono : MonoH f
instance {j : Nat} {m : XM D} : MHf (hset j m) := ⟨mono_hset⟩
instance {m : XM D} : MHf (hret m) := ⟨mono_hret⟩
instance : MH [] := ⟨fun _ h => by cases h⟩
instance {c : Str} {i : Option Nat} {f : Ex → Env → MS} {l : List HD} [MHf f] [MH l] : MH (⟨c, i, f⟩ :: l) := ⟨fun h m => by
  rcases List.mem_cons.mp m with rfl | m
  · exact MHf.mono
  · exact MH.mono h m⟩
instance {sub : Str → Str → Option Bool} {m : Env → MS} {l : List HD} [MB m] [MH l] : MB (tryS sub m l) := ⟨mono_tryS MB.mono MH.mono⟩
def clzD (g : G) (h : HD) : Clz := ⟨.ref (g.cl h.c), h.i, fun a cls d => tSu g h.i a cls d h.f⟩
theorem renv_put {k : Option Nat} (h : REnv g F σ ρ) : REnv g F (putS k a σ) (clrE k ρ) := by
  cases k with
  | none => exact h
  | some k => exact h.none
theorem renv_clr {k : Option Nat} (h : REnv g F σ ρ) : REnv g F (clrS k σ) (clrE k ρ) := by
  cases k with
  | none => exact h
  | some k => exact h.none
theorem fs_try {sub : Str → Str → Option Bool} {m : Env → MS} {l : List HD} {body : List Stmt} {h0 : ExceptHandler} {hds : List ExceptHandler} [MH l] (hs : X.stack = X.env :: X.outer) (hf : X.env.frame = some X.env.locals) (hN : X.N.Nodup) (tk : Takes X W)
    (hsub : ∀ c1 c2 b, sub c1 c2 = some b → PySem.W.exmOne X.K (.ref (g.cl c1)) (.ref (g.cl c2)) = some b)
    (hm : ∀ ρ, Mono (m ρ)) (hb : ∀ W pn xe, Takes (X.tr pn xe) W → PassesOwn (model X.prog X.w) X.A X.env xe → FB g (X.tr pn xe) W body m) (hh : ClzOk X (h0 :: hds) (l.map (clzD g))) :
    FS g X W (.Try body (h0 :: hds) [] [] pos) (tryS sub m l) := by
  refine ⟨PS.imp (ps_clz hs hf hN tk (fun W pn xe t po => (hb W pn xe t po).ps) hh) fun D σ H ⟨Z, F, st, ρ, E, N, q⟩ => ?_, mono_tryS hm MH.mono⟩
  refine ⟨Z, F, st, ρ, fun x ρ' s' => hdl sub l x ρ' s' (ResF g Z F D) (Err E), ⟨N.sim, N.env, fun x ρ' st' F' H' u d σ' s1 sim env rx z => ?_⟩, q⟩
  have key : ∀ {l : List HD}, (∀ h ∈ l, MonoH h.f) → hdl sub l x ρ' st' (ResF g Z F D) (Err E) → wClz X.K W D (l.map (clzD g)) u d σ' H' := by
    intro l
    induction l with
    | nil => exact fun _ z => N.lk x ρ' st' F' H' u d σ' s1 sim env rx z
    | cons h r ih =>
      rintro k ⟨b, eb, z⟩
      have hx := hsub _ _ _ eb
      rw [← rx.1] at hx
      cases b with
      | false => exact ⟨false, hx, fun c => (by cases c), fun _ => ih (fun h' m => k h' (List.mem_cons_of_mem _ m)) z⟩
      | true =>
        refine ⟨true, hx, fun _ a na => ?_, fun c => (by cases c)⟩
        obtain ⟨ho, z⟩ := z
        refine ⟨x, clrE h.i ρ', Z, F', st', rx, sim, renv_put env, fun n e => ?_, k h List.mem_cons_self _ _ _ _ _ _ _ (fun fl s2 y => ?_) (fun _ _ y => y) z⟩
        · show (putS h.i a σ')[n]? = _
          rw [show h.i = some n from e]
          have hl : n < σ'.length := by rw [env.1]; rw [show h.i = some n from e] at ho; exact ho
          show (σ'.set n (some (.ref a)))[n]? = _
          rw [List.getElem?_set_self hl]
        · cases fl with
          | nx ρ2 => exact fun σ2 F2 H2 s3 sim2 env2 => y _ F2 H2 (s1.trans s3) sim2 (renv_clr env2)
          | rt v => exact fun v F2 H2 s3 sim2 r2 => y v F2 H2 (s1.trans s3) sim2 r2
          | bk ρ2 => exact fun σ2 F2 H2 s3 sim2 env2 => y _ F2 H2 (s1.trans s3) sim2 (renv_clr env2)
          | ct ρ2 => exact fun σ2 F2 H2 s3 sim2 env2 => y _ F2 H2 (s1.trans s3) sim2 (renv_clr env2)
  exact key MH.mono z
/-! raise -/
def raiseS (c : Str) (ns : List Str) (m : Env → M Ex (List D)) : Env → MS := fun ρ => bindM (up ρ (m ρ)) fun ds => if ds.length = ns.length then raiseM (⟨c, ns.reverse, ds.reverse⟩, ρ) else failM
theorem mono_raiseS {c : Str} {ns : List Str} {m : Env → M Ex (List D)} (h : ∀ ρ, Mono (m ρ)) : ∀ ρ, Mono (raiseS c ns m ρ) := fun ρ => mono_bind (mono_up (h ρ)) fun _ => mono_ite (mono_raise _) mono_fail
instance {c : Str} {ns : List Str} {m : Env → M Ex (List D)} [MB m] : MB (raiseS c ns m) := ⟨mono_raiseS MB.mono⟩
def spX (C : Addr) (ns : List Str) : Sp := fun vs H Q _ => ∃ a ws, vs = .ref a :: ws ∧ ws.length = ns.length ∧ H a = some (exo a C none) ∧ ∀ dx, H dx = none → dx ≠ a → Q .non (upd (upd H dx (exd dx (ns.zip ws).reverse)) a (exo a C (some dx)))
theorem heap_x {H : Hp} {a d : Addr} {o1 o2 o3 o4 : HO} (na : H a = none) (hd : d ≠ a) : upd (del (upd (upd (upd H a o1) d o2) a o3) a) d o4 = upd H d o4 := by
  funext b
  by_cases e : b = d
  · subst e; rw [upd_same, upd_same]
  · rw [upd_ne e, upd_ne e]
    by_cases q : b = a
    · subst q; rw [del_same, na]
    · rw [del_ne q, upd_ne q, upd_ne e, upd_ne q]
theorem RelDs.rev : ∀ {ds : List D} {vs : List V}, RelDs g F ds vs → RelDs g F ds.reverse vs.reverse
  | [], _, h => by rw [h.nil_inv]; exact .nil
  | x :: ds, _, h => by
    obtain ⟨v, r, e, h1, h2⟩ := h.cons_inv
    rw [e, List.reverse_cons, List.reverse_cons]
    exact h2.rev.append (.one h1)
theorem fs_raise {CX : CXT} {c : Str} {ns : List Str} {fI : Addr} {k : Nat} {fd : FuncData} {ps : List Str} {m : Env → M Ex (List D)} {pos' : Pos} (hK : X.K = g.K) (T : OexC g.K (g.cl c)) (iC : PySem.W.findIn g.K (.ref (g.cl c)) "__init__" = some (some (.ref fI))) (tI : PySem.W.typeIn g.K (.ref fI) = some (.type "function"))
    (F1 : FnOk X.prog X.w X.K X.mg X.base CX k fI fd ps (spX (g.cl c) ns)) (hr : Room (k + 1) X.A) (hb : Binds X.K fd ps []) (hx : Passes CX X (fun _ _ _ => False)) (hc : X.calm = true) (tk : Takes X W) (hg : Gl X c) (hm : X.mg c = some (.ref (g.cl c))) (hl : ns.length ≤ 900) (ha : FA g X W (e :: es) m)
    (hdb : (c == ("__debug__" : Str)) = false := by decide) (he : starEach (e :: es) X.env = (false, eval e X.env) :: starEach es X.env := by rfl) (hpl : (backTo pos (starEach es X.env)).any (·.1) = false := by rfl) :
    FS g X W (.Raise (some (.Call (.Name c p) (e :: es) [] pos)) none pos') (raiseS c ns m) := by
  rw [← hK] at T iC tI
  refine ⟨PS.imp (ps_raise hc tk (pmk_oex T iC tI F1 hr hb .nil hx hg hm ha.pa hdb he hpl)) fun D σ H ⟨Z, F, st, ρ, E, N, q⟩ => ?_, mono_raiseS ha.mono⟩
  refine tS.go (R1 := RelDs g) N (ha.mono ρ) (fun _ => mono_ite (mono_raise _) mono_fail) q fun ds vs F st H1 e N r q => ?_
  by_cases hn : ds.length = ns.length
  · rw [if_pos hn] at q
    refine ⟨by rw [r.len, hn]; omega, fun a na => ⟨a, vs, by rw [List.append_nil], r.len.trans hn, upd_same, fun dx nd hd => ⟨rfl, dx, _, upd_same, by rw [upd_ne hd, upd_same], by rw [upd_ne hd] at nd; exact nd, ?_⟩⟩⟩
    rw [upd_ne hd] at nd
    rw [heap_x na hd]
    have s2 := same_upd (o := .xd (ns.zip vs).reverse) (N.sim.free nd).1
    have hlv : vs.length = ns.length := r.len.trans hn
    refine N.lk _ _ _ _ _ _ _ _ s2 (N.sim.new nd) (N.env.mono s2) ⟨rfl, .inr ⟨dx, _, rfl, upd_same, ?_, ?_⟩⟩ q
    · rw [List.map_reverse, List.map_fst_zip (Nat.le_of_eq hlv.symm)]
    · rw [List.map_reverse, List.map_snd_zip (Nat.le_of_eq hlv)]
      exact (r.mono s2).rev
  · rw [if_neg hn] at q
    exact q.elim
/-- B.__init__(self, ..), B an own class over ValueError without an __init__ -/
theorem pe_oinit {Bc : Addr} {x : Str} {ta : TA} {p1 p2 : Pos} {pl : Sem Bool} (hg : Gl X x) (hm : X.mg x = some (.ref Bc)) (r : ClX.CRead X.K Bc (.type "type")) (v : PySem.W.findCls X.K (.ref Bc) (.type "type") "__init__" = some (.val (.builtin "ValueError.__init__"))) (ha : PA X (e :: es) ta)
    (hdb : (x == ("__debug__" : Str)) = false := by decide)
    (hc : eval (.Call (.Attribute (.Name x p1) "__init__" p2) (e :: es) [] pos) X.env = (do
      let ov ← eval (.Name x p1) X.env
      standAt p2.atName
      let (f, first) ← holding [ov] (getMethod ov "__init__" pl)
      callWith pos f first (backTo pos (starEach (e :: es) X.env)) (backToKw pos (keywordEach [] X.env))) := by rfl)
    (he : starEach (e :: es) X.env = (false, eval e X.env) :: starEach es X.env := by rfl) (hpl : (backTo pos (starEach es X.env)).any (·.1) = false := by rfl) :
    PE X (.Call (.Attribute (.Name x p1) "__init__" p2) (e :: es) [] pos) (tVeI X.K ta) := by
  refine ⟨fun pins s σ H Q I h => PySem.W.methodCall_KW (ld_glob I hg hm ?_ hdb) hc⟩
  refine PySem.W.method_cls I.kIn r.ga (PySem.W.cls_value I.kIn r.rd v (by decide +kernel) ?_)
  show wpAny _ _ (callWith pos (Value.builtin "ValueError.__init__") [] (backTo pos (starEach (e :: es) X.env)) []) _ _ _
  refine PyProof.Rows.callWith_method1 (thn (ha.run pos pins _ σ H _ (I.tok _) h) fun us s1 ⟨vs, H1, I1, r1, a, C, ws, ev, hl, T, ea, q⟩ => ?_) he hpl
  subst ev
  cases r1 with
  | @cons _ u0 _ ur ra rw' =>
    cases (show u0 = Value.ref a from ra)
    exact oinit_ok T I1 ea (by rw [← Paired.length rw', sizeLine_eq]; omega) fun s' J => ⟨.non, H1, J, rfl, q⟩
end
end DL

/-! ### own exception classes: facts, their __init__, running -/
namespace DL
open PySem L2
section
def oexO (K : PySem.W.Frag) (C : Addr) : Bool := match K.lookup C with
  | some ⟨.type t, _, .cls cd, sl⟩ => decide (t = "type") && ((match cd.mro, sl.toList with
    | .ref C' :: bm, [_, _, _, _, some (.builtin n), _] => decide (C' = C) && (decide (n = "ValueError.__new__") && PySem.HandSPX.refsVE bm)
    | _, _ => false) && (cd.hasDict && !cd.hasDel))
  | _ => false
theorem oexO_ok {K : PySem.W.Frag} {C : Addr} (h : oexO K C = true) : ∃ nm q N bs bm sn sub ab col dd k0 k1 k2 k3 k5, K.lookup C = some (excClassObj nm q C N bs bm true sn sub ab col dd k0 k1 k2 k3 k5 "ValueError.__new__") ∧ PySem.HandSPX.refsVE bm = true := by
  unfold oexO at h
  split at h
  · rename_i t dd cd sl ho
    obtain ⟨h0, h⟩ := He.ba h
    obtain ⟨h1, hq⟩ := He.ba h
    obtain ⟨h2, h3⟩ := He.ba hq
    clear hq h
    split at h1
    · rename_i C' bm k0 k1 k2 k3 n k5 hm hs
      obtain ⟨a1, h1⟩ := He.ba h1
      obtain ⟨a2, a3⟩ := He.ba h1
      obtain ⟨nm, bs, mro, ns, qn, hd, sn, sub, ab, col, del⟩ := cd
      obtain ⟨sl⟩ := sl
      simp only at hm hs h2 h3
      have h3 : del = false := by simpa using h3
      have e0 := of_decide_eq_true h0
      have e1 := of_decide_eq_true a1
      have e2 := of_decide_eq_true a2
      subst hm hs h2 h3 e0 e1 e2
      exact ⟨_, _, _, _, _, _, _, _, _, _, _, _, _, _, _, ho, a3⟩
    · cases h1
  · cases h
def oexB (K : PySem.W.Frag) (C : Addr) : Bool := oexO K C && (decide (PySem.W.findIn K (.ref C) "__setattr__" = some (some (.builtin "object.__setattr__"))) && (decide (PySem.W.subIn K (.ref C) (.type "BaseException") = some true) && (decide (PySem.W.typeIn K (.ref C) = some (.type "type")) && PySem.W.keepIn K (.ref C))))
theorem oexB_ok {K : PySem.W.Frag} {C : Addr} (h : oexB K C = true) : OexC K C := by
  obtain ⟨h1, h⟩ := He.ba h
  obtain ⟨h2, h⟩ := He.ba h
  obtain ⟨h3, h⟩ := He.ba h
  obtain ⟨h4, h5⟩ := He.ba h
  exact ⟨oexO_ok h1, of_decide_eq_true h2, of_decide_eq_true h3, of_decide_eq_true h4, h5⟩
def vinB (K : PySem.W.Frag) (c : Str) : Bool := match PySem.W.findCls K (.ref (He.ga K c)) (.type "type") "__init__" with
  | some (.val (.builtin b)) => decide (b = "ValueError.__init__")
  | _ => false
theorem vinB_ok {K : PySem.W.Frag} {c : Str} (h : vinB K c = true) : PySem.W.findCls K (.ref (He.ga K c)) (.type "type") "__init__" = some (.val (.builtin "ValueError.__init__")) := by
  unfold vinB at h
  split at h
  · rename_i b e
    rw [e, of_decide_eq_true h]
  · cases h
/-- which exception a clause takes -/
def exmB (t : List ((Str × Str) × Bool)) (K : PySem.W.Frag) : Bool := t.all fun r => decide (PySem.W.exmOne K (.ref (He.ga K r.1.1)) (.ref (He.ga K r.1.2)) = some r.2)
def subT2 (t : List ((Str × Str) × Bool)) (a b : Str) : Option Bool := t.lookup (a, b)
theorem exmB_ok {t : List ((Str × Str) × Bool)} {K : PySem.W.Frag} (h : exmB t K = true) : ∀ c1 c2 b, subT2 t c1 c2 = some b → PySem.W.exmOne K (.ref (He.ga K c1)) (.ref (He.ga K c2)) = some b := fun c1 c2 b e => by
  have hm : ((c1, c2), b) ∈ t := by
    unfold subT2 at e
    clear h
    induction t with
    | nil => cases e
    | cons q r ih =>
      obtain ⟨q1, q2⟩ := q
      rw [List.lookup_cons] at e
      cases hb : (c1, c2) == q1 with
      | true => rw [hb] at e; cases (Option.some.inj e); rw [← eq_of_beq hb]; exact List.mem_cons_self
      | false => rw [hb] at e; exact List.mem_cons_of_mem _ (ih e)
  exact of_decide_eq_true (List.all_eq_true.mp h _ hm)
variable {P : Program} {w : World} {K : PySem.W.Frag} {mg : Str → Option Value} {base : Heap} {x qual : Str} {params : Arguments} {body : List Stmt} {scope : Scope} {f : Addr} {fd : FuncData} {N ps : List Str} {C : Addr} {f1 f2 m : Str}
theorem okX1 (F : FunD K x qual params body scope [] [] f fd) (S : FnScope N ps scope) (hp : ps.length = 2) (T : OexC K C) (n1 : NoAttr K C f1) (hst : ∀ v0 v1, L2.start N [v0, v1] = [some v0, some v1])
    (hb : ∀ (cdv : Value) (A : Around) (outer : List PySem.Env) (s : Shared) (H : Hp) (E : XK), PSs (cxOf CX0 P w K mg base N qual scope f cdv A outer s H E).nox body (tSeq (tDrop (tVeI K (tCons (tVar 0) (tCons (tC (.str m)) tNil)))) (tOst K f1 (tVar 0) (tVar 1)))) :
    FnOk P w K mg base CX0 1 f fd ps (spX C [f1]) := by
  refine okD0 F S (fun vs H Q E ⟨a, ws, e, hl, _⟩ => ?_) (fun cdv A outer s H vs Q E hr ⟨a, ws, e, hl, ea, q⟩ => ⟨_, hb cdv A outer s H E, ?_⟩)
  · subst e
    show ws.length + 1 = _
    rw [hl, hp]; rfl
  · subst e
    match ws, hl, q with
    | [y], _, q =>
      rw [hst]
      exact ⟨_, rfl, a, C, _, rfl, (show 1 ≤ 1000 by decide), T, ea, _, rfl, _, rfl, a, C, rfl, T, n1, .inl ⟨ea, fun dx nd hd => q dx nd hd⟩⟩
theorem heap_y {H : Hp} {a d : Addr} {o1 o2 o3 : HO} (hd : d ≠ a) : upd (upd (upd H d o1) a o2) d o3 = upd (upd H d o3) a o2 := by
  funext b
  by_cases e : b = d
  · subst e; rw [upd_same, upd_ne hd, upd_same]
  · rw [upd_ne e]
    by_cases q : b = a
    · subst q; rw [upd_same, upd_same]
    · rw [upd_ne q, upd_ne q, upd_ne e, upd_ne e]
theorem okX2 (F : FunD K x qual params body scope [] [] f fd) (S : FnScope N ps scope) (hp : ps.length = 3) (T : OexC K C) (n1 : NoAttr K C f1) (n2 : NoAttr K C f2) (hst : ∀ v0 v1 v2, L2.start N [v0, v1, v2] = [some v0, some v1, some v2])
    (hb : ∀ (cdv : Value) (A : Around) (outer : List PySem.Env) (s : Shared) (H : Hp) (E : XK), PSs (cxOf CX0 P w K mg base N qual scope f cdv A outer s H E).nox body (tSeq (tDrop (tVeI K (tCons (tVar 0) (tCons (tC (.str m)) tNil)))) (tSeq (tOst K f1 (tVar 0) (tVar 1)) (tOst K f2 (tVar 0) (tVar 2))))) :
    FnOk P w K mg base CX0 1 f fd ps (spX C [f1, f2]) := by
  refine okD0 F S (fun vs H Q E ⟨a, ws, e, hl, _⟩ => ?_) (fun cdv A outer s H vs Q E hr ⟨a, ws, e, hl, ea, q⟩ => ⟨_, hb cdv A outer s H E, ?_⟩)
  · subst e
    show ws.length + 1 = _
    rw [hl, hp]; rfl
  · subst e
    match ws, hl, q with
    | [y1, y2], _, q =>
      rw [hst]
      refine ⟨_, rfl, a, C, _, rfl, (show 1 ≤ 1000 by decide), T, ea, _, rfl, _, rfl, a, C, rfl, T, n1, .inl ⟨ea, fun dx nd hd => ?_⟩⟩
      refine ⟨_, rfl, _, rfl, a, C, rfl, T, n2, .inr ⟨dx, [(f1, y1)], upd_same, by rw [upd_ne hd, upd_same], (show 1 ≤ 900 by decide), ?_⟩⟩
      rw [heap_y hd]
      exact q dx nd hd
end
/-! running -/
section
variable {ρ : Env} {s : S} {QF : Fl → S → Prop} {EE : Ex × Env → S → Prop} {x : Ex} {sub : Str → Str → Option Bool} {m : Env → MS} {l : List HD} {h : HD} {as : Env → M Ex (List D)} {c f : Str} {ns : List Str}
theorem x_tryS : tryS sub m l ρ s QF EE = m ρ s QF (fun x s' => hdl sub l x.1 x.2 s' QF EE) := rfl
theorem x_hdl_nil : hdl sub [] x ρ s QF EE = EE (x, ρ) s := rfl
theorem x_hdl_yes (e : sub x.c h.c = some true) : hdl sub (h :: l) x ρ s QF EE = suM h x ρ s QF EE := by
  refine propext ⟨fun ⟨b, e1, z⟩ => ?_, fun z => ⟨true, e, by rw [if_pos rfl]; exact z⟩⟩
  rw [e] at e1
  cases (Option.some.inj e1)
  rw [if_pos rfl] at z
  exact z
theorem x_hdl_no (e : sub x.c h.c = some false) : hdl sub (h :: l) x ρ s QF EE = hdl sub l x ρ s QF EE := by
  refine propext ⟨fun ⟨b, e1, z⟩ => ?_, fun z => ⟨false, e, by rw [if_neg Bool.false_ne_true]; exact z⟩⟩
  rw [e] at e1
  cases (Option.some.inj e1)
  rw [if_neg Bool.false_ne_true] at z
  exact z
theorem x_suM {i : Option Nat} {fh : Ex → Env → MS} : suM ⟨c, i, fh⟩ x ρ s QF EE = (okI i ρ ∧ fh x (clrE i ρ) s (fun fl s' => QF (clrF i fl) s') (fun _ _ => False)) := rfl
theorem okI_none : okI none ρ = True := rfl
theorem okI_some {i : Nat} : okI (some i) ρ = (i < ρ.length) := rfl
theorem clrE_none : clrE none ρ = ρ := rfl
theorem clrE_some {i : Nat} : clrE (some i) ρ = ρ.set i none := rfl
theorem clrF_nx {i : Option Nat} : clrF i (.nx ρ) = .nx (clrE i ρ) := rfl
theorem clrF_rt {i : Option Nat} {d : D} : clrF i (.rt d) = .rt d := rfl
theorem x_hset {j : Nat} {mm : XM D} : hset j mm x ρ s QF EE = ∃ v, mm x ρ = some v ∧ QF (.nx (ρ.set j (some v))) s := rfl
theorem x_hret {mm : XM D} : hret mm x ρ s QF EE = ∃ v, mm x ρ = some v ∧ QF (.rt v) s := rfl
theorem x_xC {d : D} : xC d x ρ = some d := rfl
theorem x_xF {vs : List D} : xF c f ⟨c, ns, vs⟩ ρ = (ns.zip vs).lookup f := if_pos rfl
theorem x_xN : xN x ρ = some [] := rfl
theorem x_xS {mm : XM D} {ms : XM (List D)} : xS mm ms x ρ = (mm x ρ).bind fun y => (ms x ρ).map fun ys => y :: ys := rfl
theorem x_xT {ms : XM (List D)} : xT ms x ρ = (ms x ρ).bind fun ys => if ys.length ≤ 1000 then some (.tup ys) else none := rfl
theorem x_raiseS {c : Str} : raiseS c ns as ρ s QF EE = as ρ s (fun ds s' => (if ds.length = ns.length then raiseM (⟨c, ns.reverse, ds.reverse⟩, ρ) else failM : MS) s' QF EE) (fun x s' => EE (x, ρ) s') := rfl
theorem x_raise1 {n1 : Str} {a : Env → M Ex D} : raiseS c [n1] (argsC a argsN) ρ s QF EE = a ρ s (fun d s' => EE (⟨c, [n1], [d]⟩, ρ) s') (fun x s' => EE (x, ρ) s') := rfl
theorem x_raise2 {n1 n2 : Str} {a b : Env → M Ex D} : raiseS c [n1, n2] (argsC a (argsC b argsN)) ρ s QF EE = a ρ s (fun d s' => b ρ s' (fun d2 s2 => EE (⟨c, [n2, n1], [d2, d]⟩, ρ) s2) (fun x s' => EE (x, ρ) s')) (fun x s' => EE (x, ρ) s') := rfl
end
end DL

namespace DL
def runs_D23 := And.intro @x_tryS (And.intro @x_hdl_nil (And.intro @x_suM (And.intro @okI_none (And.intro @okI_some (And.intro @clrE_none (And.intro @clrE_some (And.intro @clrF_nx (And.intro @clrF_rt (And.intro @x_hset (And.intro @x_hret (And.intro @x_xC (And.intro @x_xF (And.intro @x_xN (And.intro @x_xS (And.intro @x_xT (And.intro @x_raise1 (@x_raise2)))))))))))))))))
end DL
/-! ### own special methods: x[y], y in x, len(x), x + y -/
namespace DL
open PySem L2
section
variable {g : G} {Z F F' H H' : Hp} {W : WX} {σ : St} {ρ : Env} {st : S} {X : Cx} {e e1 e2 : Expr} {pos p : Pos} {k : Nat} {f : Addr} {m : Fn} {c : Str} {a b : Env → M Ex D}
theorem run_calA {A : Around} {pins : List (Addr × Obj)} {s : Shared} {Q : VK} {us : List Value} {vs : List V} (C : Cal g X.prog X.w X.K X.mg X.base k f [] m) (hr : Room k A) (ev : Env0 X.prog X.w X.K X.mg X.base A X.stack s H) (tk : Takes X W) (I : Inv X pins σ H s) (r : Vals vs us) (h : spK g m vs [] H Q (WE W σ)) :
    wpAny (model X.prog X.w) A (call (.ref f) us) (EP X pins σ Q) X.xe s := by
  refine wpAny_call (codeAny_mono (C A X.stack s H us [] vs [] _ _ hr ev r .nil h) fun r s' hq => ?_)
  cases r with
  | error e => exact passAt tk σ pins H s e s' I hq
  | ok fl =>
    cases fl with
    | ret u => exact I.after hq
    | next => exact False.elim hq
    | brk => exact False.elim hq
    | cont => exact False.elim hq
/-- a special method of the class c, written in the text -/
structure SpC (g : G) (c nm : Str) (f : Addr) : Prop where
  at_ : PySem.W.findIn g.K (.ref (g.cl c)) nm = some (some (.ref f))
  fn : PySem.W.isFn g.K (.ref f) = true
  fi : PySem.W.fnIn g.K f = true
/-- its run: x an instance of c -/
def spcM (c : Str) (m : Fn) (x : D) (ds : List D) : M Ex D := bindM (seeM fun st => isC st c x) fun _ => m (x :: ds) []
theorem mono_spcM {x : D} {ds : List D} (hM : MonoF m) : Mono (spcM c m x ds) := mono_bind (mono_see _) fun _ => hM _ _
def SpNow (g : G) (W : WX) (σ : St) (c : Str) (m : Fn) (x : V) (vs : List V) (H : Hp) (Q : VK) : Prop := ∃ Z F st ρ E dx ds, Now g W Z σ H F ρ st E ∧ RelD g F dx x ∧ RelDs g F ds vs ∧ spcM c m dx ds st (Res g (RelD g) Z F Q) (fun x s => E x ρ s)
theorem SpNow.sp {x : V} {vs : List V} {Q : VK} (h : SpNow g W σ c m x vs H Q) (hM : MonoF m) : (∃ o dx fs, x = .ref o ∧ H o = some (.ins (g.cl c) dx fs)) ∧ spK g m (x :: vs) [] H Q (WE W σ) := by
  obtain ⟨Z, F, st, ρ, E, dx, ds, N, rx, rs, _, h1, q⟩ := h
  exact ⟨isC_ok N.sim rx h1, Z, F, st, dx :: ds, [], N.sim, .cons rx rs, .nil, hM _ _ _ _ _ _ _ (fun _ _ z => z) (fun _ _ z => N.exc z) q⟩
theorem tX.spc2 {Q : VK} (ha : ∀ ρ, Mono (a ρ)) (hb : ∀ ρ, Mono (b ρ)) (hM : MonoF m) (h : tX g (RelD g) W (fun ρ => bindM (a ρ) fun x => bindM (b ρ) fun y => spcM c m x [y]) σ H Q) :
    tX g (RelD g) W a σ H fun x H1 => tX g (RelD g) W b σ H1 fun y H2 => SpNow g W σ c m x [y] H2 Q := by
  obtain ⟨Z, F, st, ρ, E, N, q⟩ := h
  refine tX.go (R1 := RelD g) N (ha ρ) (fun _ => mono_bind (hb ρ) fun _ => mono_spcM hM) q fun dx x F st H1 e N rx q => ?_
  refine tX.go (R1 := RelD g) N (hb ρ) (fun _ => mono_spcM hM) q fun dy y F2 st H2 e2 N ry q => ?_
  exact ⟨Z, F2, st, ρ, E, dx, [dy], N, rx.mono e2, .one ry, q⟩
theorem tX.spc2r {Q : VK} (ha : ∀ ρ, Mono (a ρ)) (hb : ∀ ρ, Mono (b ρ)) (hM : MonoF m) (h : tX g (RelD g) W (fun ρ => bindM (a ρ) fun y => bindM (b ρ) fun x => spcM c m x [y]) σ H Q) :
    tX g (RelD g) W a σ H fun y H1 => tX g (RelD g) W b σ H1 fun x H2 => SpNow g W σ c m x [y] H2 Q := by
  obtain ⟨Z, F, st, ρ, E, N, q⟩ := h
  refine tX.go (R1 := RelD g) N (ha ρ) (fun _ => mono_bind (hb ρ) fun _ => mono_spcM hM) q fun dx x F st H1 e N rx q => ?_
  refine tX.go (R1 := RelD g) N (hb ρ) (fun _ => mono_spcM hM) q fun dy y F2 st H2 e2 N ry q => ?_
  exact ⟨Z, F2, st, ρ, E, dy, [dx], N, ry, .one (rx.mono e2), q⟩
/-! x[y] -/
def ownIxE (c : Str) (m : Fn) (a b : Env → M Ex D) : Env → M Ex D := fun ρ => bindM (a ρ) fun x => bindM (b ρ) fun y => spcM c m x [y]
instance [MF m] [MB a] [MB b] : MB (ownIxE c m a b) := ⟨fun ρ => mono_bind (MB.mono ρ) fun _ => mono_bind (MB.mono ρ) fun _ => mono_spcM MF.mono⟩
theorem fe_ownIx (C : Cal g X.prog X.w X.K X.mg X.base k f [] m) (hM : MonoF m) (hr : Room (k + 1) X.A) (tk : Takes X W) (hK : X.K = g.K) (T : SpC g c "__getitem__" f) (ha : FE g X W e1 a) (hb : FE g X W e2 b)
    (hs : ∀ o i, subscripted e2 true o i = runValue (.builtin "lifetime.subscript" ⟨[o, i], []⟩) := by intro o i; rfl) : FE g X W (.Subscript e1 e2 pos) (ownIxE c m a b) := by
  refine ⟨⟨fun pins s σ H Q I q => ?_⟩, fun ρ => mono_bind (ha.mono ρ) fun _ => mono_bind (hb.mono ρ) fun _ => mono_spcM hM⟩
  refine PyProof.Rows.Subscript_ (binT ha.pe hb.pe I (tX.spc2 ha.mono hb.mono hM q) fun v u s2 x y H2 I2 rx ry q => ?_)
  obtain ⟨⟨o, dx, fs, rfl, ho⟩, sp⟩ := q.sp hM
  cases (show v = Value.ref o from rx)
  obtain ⟨mA, O, rr, _⟩ := ins_get I2.hok ho
  obtain ⟨od, J, _⟩ := O.look
  obtain ⟨fm, hF⟩ := I2.fr
  refine PySem.W.sub_K hF I2.ok.mod.kin J (by rw [hK]; exact T.at_) (by rw [hK]; exact T.fi) (by rw [hK]; exact T.fn) ?_ (hs _ _)
  exact run_calA (us := [.ref o, u]) (vs := [.ref o, y]) C hr.in1 I2.env0.in1 tk I2 (.cons rfl (.cons ry .nil)) sp
/-! y in x -/
def ownInE (c : Str) (m : Fn) (neg : Bool) (a b : Env → M Ex D) : Env → M Ex D := fun ρ => bindM (a ρ) fun y => bindM (b ρ) fun x => bindM (spcM c m x [y]) fun r => bindM (asB r) fun k => pureM (.bl (k ^^ neg))
theorem mono_ownIn {neg : Bool} (hM : MonoF m) (ha : ∀ ρ, Mono (a ρ)) (hb : ∀ ρ, Mono (b ρ)) : ∀ ρ, Mono (ownInE c m neg a b ρ) := fun ρ => mono_bind (ha ρ) fun _ => mono_bind (hb ρ) fun _ => mono_bind (mono_spcM hM) fun r => mono_bind (mono_asB r) fun _ => mono_pure _
instance {neg : Bool} [MF m] [MB a] [MB b] : MB (ownInE c m neg a b) := ⟨mono_ownIn MF.mono MB.mono MB.mono⟩
theorem tX.ownIn {neg : Bool} {Q : VK} (ha : ∀ ρ, Mono (a ρ)) (hb : ∀ ρ, Mono (b ρ)) (hM : MonoF m) (h : tX g (RelD g) W (ownInE c m neg a b) σ H Q) :
    tX g (RelD g) W a σ H fun y H1 => tX g (RelD g) W b σ H1 fun x H2 => SpNow g W σ c m x [y] H2 (fun r H3 => ∃ k, r = .bl k ∧ Q (.bl (k ^^ neg)) H3) := by
  obtain ⟨Z, F, st, ρ, E, N, q⟩ := h
  have mk : ∀ r, Mono (bindM (asB r) fun k => pureM (D.bl (k ^^ neg)) : M Ex D) := fun r => mono_bind (mono_asB r) fun _ => mono_pure _
  refine tX.go (R1 := RelD g) N (ha ρ) (fun _ => mono_bind (hb ρ) fun _ => mono_bind (mono_spcM hM) mk) q fun dx x F st H1 e N rx q => ?_
  refine tX.go (R1 := RelD g) N (hb ρ) (fun _ => mono_bind (mono_spcM hM) mk) q fun dy y F2 st H2 e2 N ry q => ?_
  refine ⟨Z, F2, st, ρ, E, dy, [dx], N, ry, .one (rx.mono e2), mono_spcM hM _ _ _ _ _ (fun r s1 z v F' H' e sim' rv => ?_) (fun _ _ z => z) q⟩
  obtain ⟨k, rfl, z⟩ := asB_inv z
  unfold RelD at rv
  exact ⟨k, rv, z (.bl (k ^^ neg)) F' H' e sim' relD_bl⟩
theorem run_in {pins : List (Addr × Obj)} {s : Shared} {Q : VK} {x y : V} {v u : Value} (C : Cal g X.prog X.w X.K X.mg X.base k f [] m) (hM : MonoF m) (hr : Room k X.A) (tk : Takes X W) (hK : X.K = g.K) (T : SpC g c "__contains__" f) (I : Inv X pins σ H s) (rx : RelV x v) (ry : RelV y u) {neg : Bool}
    (q : SpNow g W σ c m x [y] H (fun r H3 => ∃ k, r = .bl k ∧ Q (.bl (k ^^ neg)) H3)) : wpAny (model X.prog X.w) X.A (compareOp (if neg = true then .NotIn else .In) u v) (fun r s' => ∃ k H', r = .bool k ∧ Inv X pins σ H' s' ∧ Q (.bl k) H') X.xe s := by
  obtain ⟨⟨o, dx, fs, rfl, ho⟩, sp⟩ := q.sp hM
  cases (show v = Value.ref o from rx)
  obtain ⟨mA, O, rr, _⟩ := ins_get I.hok ho
  obtain ⟨od, J, _⟩ := O.look
  obtain ⟨fm, hF⟩ := I.fr
  have go := run_calA (us := [.ref o, u]) (vs := [.ref o, y]) C hr I.env0 tk I (.cons rfl (.cons ry .nil)) sp
  cases neg with
  | false =>
    rw [if_neg Bool.false_ne_true]
    refine PySem.W.in_K hF I.ok.mod.kin J (by rw [hK]; exact T.at_) (by rw [hK]; exact T.fn) (wpAny_mono go (fun r s' ⟨z, H', I', rz, k, ek, qz⟩ => ?_) fun _ _ z => z)
    subst ek
    cases (show r = Value.bool k from rz)
    exact wpAny_truthy_bool ⟨k, H', rfl, I', by simpa using qz⟩
  | true =>
    rw [if_pos rfl]
    refine PySem.W.notIn_K hF I.ok.mod.kin J (by rw [hK]; exact T.at_) (by rw [hK]; exact T.fn) (wpAny_mono go (fun r s' ⟨z, H', I', rz, k, ek, qz⟩ => ?_) fun _ _ z => z)
    subst ek
    cases (show r = Value.bool k from rz)
    exact wpAny_truthy_bool ⟨!k, H', rfl, I', by simpa using qz⟩
theorem fe_ownIn (C : Cal g X.prog X.w X.K X.mg X.base k f [] m) (hM : MonoF m) (hr : Room k X.A) (tk : Takes X W) (hK : X.K = g.K) (T : SpC g c "__contains__" f) (ha : FE g X W e1 a) (hb : FE g X W e2 b) (hm : behindInMarks .In e2 = false := by rfl) : FE g X W (.Compare e1 [.In] [e2] pos) (ownInE c m false a b) :=
  ⟨⟨fun pins s σ H Q I q => wpAny_Compare1 (binT ha.pe hb.pe I (tX.ownIn ha.mono hb.mono hM q) fun v u s2 y x H2 I2 ry rx q => thn (run_in C hM hr tk hK T I2 rx ry (neg := false) q) fun r s' ⟨k, H', e, I', z⟩ => ⟨.bl k, H', I', by rw [e]; rfl, z⟩) hm⟩, mono_ownIn hM ha.mono hb.mono⟩
theorem fe_ownNotIn (C : Cal g X.prog X.w X.K X.mg X.base k f [] m) (hM : MonoF m) (hr : Room k X.A) (tk : Takes X W) (hK : X.K = g.K) (T : SpC g c "__contains__" f) (ha : FE g X W e1 a) (hb : FE g X W e2 b) (hm : behindInMarks .NotIn e2 = false := by rfl) : FE g X W (.Compare e1 [.NotIn] [e2] pos) (ownInE c m true a b) :=
  ⟨⟨fun pins s σ H Q I q => wpAny_Compare1 (binT ha.pe hb.pe I (tX.ownIn ha.mono hb.mono hM q) fun v u s2 y x H2 I2 ry rx q => thn (run_in C hM hr tk hK T I2 rx ry (neg := true) q) fun r s' ⟨k, H', e, I', z⟩ => ⟨.bl k, H', I', by rw [e]; rfl, z⟩) hm⟩, mono_ownIn hM ha.mono hb.mono⟩
theorem ft_ownIn (C : Cal g X.prog X.w X.K X.mg X.base k f [] m) (hM : MonoF m) (hr : Room k X.A) (tk : Takes X W) (hK : X.K = g.K) (T : SpC g c "__contains__" f) (ha : FE g X W e1 a) (hb : FE g X W e2 b) (hm : behindInMarks .In e2 = false := by rfl) : FT g X W (.Compare e1 [.In] [e2] pos) (liftT (ownInE c m false a b)) := by
  refine ⟨⟨fun pins s σ H Q I h => ?_⟩, mono_liftT (mono_ownIn hM ha.mono hb.mono)⟩
  have q := tX.ownIn ha.mono hb.mono hM (tX.test (mono_ownIn hM ha.mono hb.mono) h)
  refine wpAny_isTrue_Compare1 (thn (ha.pe.run pins s σ H _ I q) fun v s1 ⟨x, H1, I1, r1, q1⟩ => thn (hb.pe.run pins s1 σ H1 _ I1 q1) fun u s2 ⟨y, H2, I2, r2, q2⟩ => thn (run_in (Q := fun x H' => ∃ k, x = .bl k ∧ Q k H') C hM hr tk hK T I2 r2 r1 (neg := false) q2) fun r s' ⟨k, H', e, I', z⟩ => ?_) hm
  obtain ⟨j, ej, z⟩ := z
  cases ej
  subst e
  exact wpAny_truthy_bool ⟨H', I', z⟩
theorem ft_ownNotIn (C : Cal g X.prog X.w X.K X.mg X.base k f [] m) (hM : MonoF m) (hr : Room k X.A) (tk : Takes X W) (hK : X.K = g.K) (T : SpC g c "__contains__" f) (ha : FE g X W e1 a) (hb : FE g X W e2 b) (hm : behindInMarks .NotIn e2 = false := by rfl) : FT g X W (.Compare e1 [.NotIn] [e2] pos) (liftT (ownInE c m true a b)) := by
  refine ⟨⟨fun pins s σ H Q I h => ?_⟩, mono_liftT (mono_ownIn hM ha.mono hb.mono)⟩
  have q := tX.ownIn ha.mono hb.mono hM (tX.test (mono_ownIn hM ha.mono hb.mono) h)
  refine wpAny_isTrue_Compare1 (thn (ha.pe.run pins s σ H _ I q) fun v s1 ⟨x, H1, I1, r1, q1⟩ => thn (hb.pe.run pins s1 σ H1 _ I1 q1) fun u s2 ⟨y, H2, I2, r2, q2⟩ => thn (run_in (Q := fun x H' => ∃ k, x = .bl k ∧ Q k H') C hM hr tk hK T I2 r2 r1 (neg := true) q2) fun r s' ⟨k, H', e, I', z⟩ => ?_) hm
  obtain ⟨j, ej, z⟩ := z
  cases ej
  subst e
  exact wpAny_truthy_bool ⟨H', I', z⟩
/-! len(x) -/
def ownLenE (c : Str) (m : Fn) (a : Env → M Ex (List D)) : Env → M Ex D := fun ρ => bindM (a ρ) fun ds => bindM (seeM fun _ => one ds) fun x => bindM (spcM c m x []) fun r => bindM (asI r) fun i => bindM (needM (0 ≤ i ∧ i < 2 ^ 62)) fun _ => pureM (.int i)
variable {as : Env → M Ex (List D)}
theorem mono_ownLen (hM : MonoF m) (ha : ∀ ρ, Mono (as ρ)) : ∀ ρ, Mono (ownLenE c m as ρ) := fun ρ => mono_bind (ha ρ) fun _ => mono_bind (mono_see _) fun _ => mono_bind (mono_spcM hM) fun r => mono_bind (mono_asI r) fun _ => mono_bind (mono_need _) fun _ => mono_pure _
instance [MF m] [MB as] : MB (ownLenE c m as) := ⟨mono_ownLen MF.mono MB.mono⟩
theorem fe_ownLen (C : Cal g X.prog X.w X.K X.mg X.base k f [] m) (hM : MonoF m) (hr : Room (k + 1) X.A) (tk : Takes X W) (hK : X.K = g.K) (T : SpC g c "__len__" f) (hg : Gl X "len") (hm : X.mg "len" = none) (ha : FA g X W [e] as)
    (he : starEach [e] X.env = (false, eval e X.env) :: starEach [] X.env := by rfl) (hpl : (backTo pos (starEach [] X.env)).any (·.1) = false := by rfl) : FE g X W (.Call (.Name "len" p) [e] [] pos) (ownLenE c m as) := by
  refine ⟨⟨fun pins s σ H Q I ⟨Z, F, st, ρ, E, N, q⟩ => ?_⟩, mono_ownLen hM ha.mono⟩
  refine wpAny_Call_Name_kw (ld_blt I hg hm PySem.boot_len ?_ (by decide) (by decide))
  have mk : ∀ r, Mono (bindM (asI r) fun i => bindM (needM (0 ≤ i ∧ i < 2 ^ 62)) fun _ => pureM (.int i) : M Ex D) := fun r => mono_bind (mono_asI r) fun _ => mono_bind (mono_need _) fun _ => mono_pure _
  refine PyProof.Rows.callWith_builtin1 (thn (ha.pa.run pos pins s σ H _ I (tX.go (R1 := RelDs g) (P := fun vs H1 => ∃ x, vs = [x] ∧ SpNow g W σ c m x [] H1 (fun r H3 => ∃ i : Int, r = .int i ∧ (0 ≤ i ∧ i < 2 ^ 62) ∧ Q (.int i) H3)) N (ha.mono ρ) (fun _ => mono_bind (mono_see _) fun _ => mono_bind (mono_spcM hM) mk) q fun ds vs F st H1 e N rs q => ?_)) fun us s1 ⟨vs, H1, I1, r1, x, ev, q1⟩ => ?_) he hpl
  · obtain ⟨d, hd, q⟩ := q
    cases one_inv hd
    obtain ⟨v, vs', rfl, rv, r2⟩ := rs.cons_inv
    rw [r2.nil_inv]
    refine ⟨v, rfl, Z, F, st, ρ, E, d, [], N, rv, .nil, mono_spcM hM _ _ _ _ _ (fun r s1 z v F' H' e sim' rv => ?_) (fun _ _ z => z) q⟩
    obtain ⟨i, rfl, hi, z⟩ := asI_inv z
    unfold RelD at rv
    exact ⟨i, rv, hi, z (.int i) F' H' e sim' relD_int⟩
  · subst ev
    obtain ⟨u, rfl, ru⟩ := r1.one
    obtain ⟨⟨o, dx, fs, rfl, ho⟩, sp⟩ := q1.sp hM
    cases (show u = Value.ref o from ru)
    obtain ⟨mA, O, rr, _⟩ := ins_get I1.hok ho
    obtain ⟨od, J, _⟩ := O.look
    obtain ⟨fm, hF⟩ := I1.fr
    refine PySem.W.len_K hF I1.ok.mod.kin J (by rw [hK]; exact T.at_) (by rw [hK]; exact T.fn) (wpAny_mono (run_calA (us := [.ref o]) (vs := [.ref o]) C hr.in1 I1.env0.in1 tk I1 (.cons rfl .nil) sp) (fun r s' ⟨z, H', I', rz, i, ei, hi, qz⟩ => ?_) fun _ _ z => z)
    subst ei
    obtain ⟨t, et⟩ := (show ∃ t, r = Value.int i t from rz)
    subst et
    exact ⟨⟨hi.1, by omega⟩, .int i, H', I'.tok _, ⟨_, rfl⟩, qz⟩
/-! running -/
variable {s : S} {Q : D → S → Prop} {E : Ex → S → Prop} {x : D} {ds : List D}
theorem x_spcM : spcM c m x ds s Q E = ∃ v, isC s c x = some v ∧ m (x :: ds) [] s Q E := rfl
theorem x_ownIxE : ownIxE c m a b ρ s Q E = a ρ s (fun x s1 => b ρ s1 (fun y s2 => spcM c m x [y] s2 Q E) E) E := rfl
theorem x_ownInE {neg : Bool} : ownInE c m neg a b ρ s Q E = a ρ s (fun y s1 => b ρ s1 (fun x s2 => spcM c m x [y] s2 (fun r s3 => asB r s3 (fun k s4 => Q (.bl (k ^^ neg)) s4) E) E) E) E := rfl
theorem x_ownLenE : ownLenE c m as ρ s Q E = as ρ s (fun ds s1 => ∃ v, one ds = some v ∧ spcM c m v [] s1 (fun r s2 => asI r s2 (fun i s3 => (0 ≤ i ∧ i < 2 ^ 62) ∧ Q (.int i) s3) E) E) E := rfl
end
end DL

namespace DL
def runs_D24 := And.intro @x_spcM (And.intro @x_ownIxE (And.intro @x_ownInE (@x_ownLenE)))
end DL
/-! ### x + y by an own __add__, y an instance of another class -/
namespace DL
open PySem L2
section
open PySem.W
theorem obj_add : typeLookup (.type "object") (PySem.dunder "add") = pure none := by rw [typeLookup_type, builtinLookup_eq_fast]; kernel_rfl
theorem obj_radd : typeLookup (.type "object") (dunderR "add") = pure none := by rw [typeLookup_type, builtinLookup_eq_fast]; kernel_rfl
def noAdd (K : Frag) (C : Addr) : Bool := match clsIn K C with
  | some cd => (match cd.mro with
    | [.ref a, .type n] => decide (a = C) && decide (n = "object")
    | _ => false) && (decide (findIn K (.ref C) (PySem.dunder "add") = some none) && decide (findIn K (.ref C) (dunderR "add") = some none))
  | none => false
theorem fills_no {M : Model} {h : Heap} {K : Frag} {C : Addr} (X : K.In h) (hn : noAdd K C = true) : Looks M h (fillsNumberSlot (.ref C) "add") false := by
  unfold noAdd at hn
  split at hn
  · rename_i cd hc
    obtain ⟨h1, hn⟩ := He.ba hn
    obtain ⟨h2, h3⟩ := He.ba hn
    have h2 := of_decide_eq_true h2
    have h3 := of_decide_eq_true h3
    split at h1
    · rename_i a n hm
      obtain ⟨e1, e2⟩ := He.ba h1
      have e1 := of_decide_eq_true e1
      have e2 := of_decide_eq_true e2
      subst e1 e2
      intro A Q E s k q
      unfold fillsNumberSlot
      refine wpAny_bind ((looks_clsIn X hc).andThen (f := fun cd => pure cd.mro) .now A _ E s k ?_)
      rw [hm, List.anyM_cons]
      refine wpAny_bind ?_
      show wpAny M A (List.anyM _ [PySem.dunder "add", dunderR "add"]) _ _ _
      rw [List.anyM_cons]
      refine wpAny_bind (wpAny_bind (looks_findIn X h2 A _ E s k ?_))
      dsimp only
      refine wpAny_pure ?_
      rw [if_neg Bool.false_ne_true, List.anyM_cons]
      refine wpAny_bind (wpAny_bind (looks_findIn X h3 A _ E s k ?_))
      dsimp only
      refine wpAny_pure ?_
      rw [if_neg Bool.false_ne_true, List.anyM_nil]
      refine wpAny_pure ?_
      rw [if_neg Bool.false_ne_true, List.anyM_cons]
      refine wpAny_bind ?_
      dsimp only
      rw [obj_add, obj_radd]
      refine wpAny_bind (wpAny_pure ?_)
      refine wpAny_bind (wpAny_pure ?_)
      refine wpAny_pure ?_
      rw [if_neg (by decide), List.anyM_nil]
      exact wpAny_pure q
    · cases h1
  · cases hn
theorem binop_two {prog : Program} {w : World} {A : Around} {E : Value → Shared → Prop} {s : Shared} {K : Frag} {x C C' L f : Addr} {h₀ : Heap} {m : Str → Option Value} {ox : Obj} {od : Option Obj} {b : Value} {Q : Value → Shared → Prop} (F : PyProof.Rows.Fr h₀ L s.heap m) (X₀ : K.In h₀) (I : InstAt s.heap x ox C od) (hb : Looks (model prog w) s.heap (typeOf b) (.ref C')) (hne : C ≠ C') (hc : selfFirst K C = true)
    (hs : findIn K (.ref C) "__add__" = some (some (.ref f))) (hf : isFn K (.ref f) = true) (hn : noAdd K C' = true)
    (h : wpAny (model prog w) A (call (.ref f) [.ref x, b]) (CmpBack Q) E s) : wpAny (model prog w) A (binaryOp .Add (.ref x) b) Q E s := by
  have X := X₀.keeps F.keep
  obtain ⟨cd, hcd, hm⟩ := any_some hc
  obtain ⟨rest, hm⟩ : ∃ rest, cd.mro = .ref C :: rest := by
    cases q : cd.mro with
    | nil => rw [q] at hm; cases hm
    | cons a r => rw [q] at hm; exact ⟨r, by rw [List.head?_cons] at hm; cases (beq_iff_eq.mp hm); rfl⟩
  unfold binaryOp
  refine wpAny_holding (wpAny_bind ?_)
  unfold binaryOp1
  have e1 : (Value.ref C == Value.ref C') = false := by
    rw [Bool.eq_false_iff]
    intro z
    exact hne (Value.ref.inj (beq_iff_eq.mp z))
  refine wpAny_bind (I.type.here (wpAny_bind (hb.here (wpAny_bind ((fills_K (nm := "add") X hcd hm hs).here ?_)))))
  simp only [e1, Bool.false_eq_true, if_false]
  refine wpAny_bind ((fills_no X hn).here ?_)
  simp only [Bool.and_false, Bool.false_eq_true, if_false, Bool.false_and]
  refine wpAny_bind (wpAny_pure ?_)
  simp only [Bool.false_eq_true, if_false, if_true]
  refine wpAny_bind (m := tryMethod (.ref x) _ b) ?_
  unfold tryMethod
  refine wpAny_bind (special_fn X I hs (beq_iff_eq.mp hf) (wpAny_mono h (fun v s' hv => ?_) fun _ _ e => e))
  cases v <;> first | exact hv.elim | exact wpAny_pure (wpAny_pure (wpAny_pure hv))
end
section
variable {g : G} {Z F F' H H' : Hp} {W : WX} {σ : St} {ρ : Env} {st : S} {X : Cx} {e e1 e2 : Expr} {pos p : Pos} {k : Nat} {f : Addr} {m : Fn} {c : Str} {a b : Env → M Ex D} {cs : List Str}
/-- x + y: x of the class c, y of one of cs -/
def ownAddE (c : Str) (cs : List Str) (m : Fn) (a b : Env → M Ex D) : Env → M Ex D := fun ρ => bindM (a ρ) fun x => bindM (b ρ) fun y => bindM (seeM fun st => (clsS st y).bind fun c' => if c' ∈ cs then some () else none) fun _ => spcM c m x [y]
theorem mono_ownAdd (hM : MonoF m) (ha : ∀ ρ, Mono (a ρ)) (hb : ∀ ρ, Mono (b ρ)) : ∀ ρ, Mono (ownAddE c cs m a b ρ) := fun ρ => mono_bind (ha ρ) fun _ => mono_bind (hb ρ) fun _ => mono_bind (mono_see _) fun _ => mono_spcM hM
instance [MF m] [MB a] [MB b] : MB (ownAddE c cs m a b) := ⟨mono_ownAdd MF.mono MB.mono MB.mono⟩
structure AddC (g : G) (c : Str) (cs : List Str) : Prop where
  first : PySem.W.selfFirst g.K (g.cl c) = true
  other : ∀ c' ∈ cs, g.cl c ≠ g.cl c' ∧ noAdd g.K (g.cl c') = true
theorem fe_ownAdd (C : Cal g X.prog X.w X.K X.mg X.base k f [] m) (hM : MonoF m) (hr : Room k X.A) (tk : Takes X W) (hK : X.K = g.K) (T : SpC g c "__add__" f) {ow : List Str} (O : OwnTy g ow) (hsub : ∀ c' ∈ cs, c' ∈ ow) (T2 : AddC g c cs) (ha : FE g X W e1 a) (hb : FE g X W e2 b) : FE g X W (.BinOp e1 .Add e2 pos) (ownAddE c cs m a b) := by
  refine ⟨⟨fun pins s σ H Q I ⟨Z, F, st, ρ, E, N, q⟩ => ?_⟩, mono_ownAdd hM ha.mono hb.mono⟩
  have q : tX g (RelD g) W a σ H fun x H1 => tX g (RelD g) W b σ H1 fun y H2 => SpNow g W σ c m x [y] H2 Q ∧ ∃ c' o dx fs, c' ∈ cs ∧ y = .ref o ∧ H2 o = some (.ins (g.cl c') dx fs) := by
    refine tX.go (R1 := RelD g) N (ha.mono ρ) (fun _ => mono_bind (hb.mono ρ) fun _ => mono_bind (mono_see _) fun _ => mono_spcM hM) q fun dx x F st H1 e N rx q => ?_
    refine tX.go (R1 := RelD g) N (hb.mono ρ) (fun _ => mono_bind (mono_see _) fun _ => mono_spcM hM) q fun dy y F2 st H2 e2 N ry q => ?_
    obtain ⟨_, h1, q⟩ := q
    obtain ⟨c', h2, h3⟩ := Option.bind_eq_some_iff.mp h1
    split at h3
    · rename_i hc
      obtain ⟨o, dd, fs, rfl, ho⟩ := N.sim.clsS ry h2
      exact ⟨⟨Z, F2, st, ρ, E, dx, [dy], N, rx.mono e2, .one ry, q⟩, c', o, dd, fs, hc, rfl, ho⟩
    · cases h3
  refine wpAny_BinOp (binT ha.pe hb.pe I q fun v u s2 x y H2 I2 rx ry q => ?_)
  obtain ⟨q, c', o', dx', fs', hc', rfl, ho'⟩ := q
  obtain ⟨⟨o, dx, fs, rfl, ho⟩, sp⟩ := q.sp hM
  cases (show v = Value.ref o from rx)
  cases (show u = Value.ref o' from ry)
  obtain ⟨mA, O1, rr, _⟩ := ins_get I2.hok ho
  obtain ⟨od, J, _⟩ := O1.look
  have ty := O.ins c' (hsub c' hc') ho'
  rw [← hK] at ty
  obtain ⟨P, Z2, p, _⟩ := kit_of I2 (x := V.ref o') (u := Value.ref o') rfl ty
  obtain ⟨fm, hF⟩ := I2.fr
  refine binop_two hF I2.ok.mod.kin J (Z2.ty _ _ I2.kIn p) (T2.other c' hc').1 (by rw [hK]; exact T2.first) (by rw [hK]; exact T.at_) (by rw [hK]; exact T.fn) (by rw [hK]; exact (T2.other c' hc').2) ?_
  refine wpAny_mono (run_calA (us := [.ref o, .ref o']) (vs := [.ref o, .ref o']) C hr I2.env0 tk I2 (.cons rfl (.cons rfl .nil)) sp) (fun r s' ⟨z, H', I', rz, qz⟩ => SlX.cmpback rz ⟨z, H', I', rz, qz⟩) fun _ _ z => z
def addB (c : Str) (cs : List Str) (K : PySem.W.Frag) : Bool := PySem.W.selfFirst K (He.ga K c) && cs.all fun c' => decide (He.ga K c ≠ He.ga K c') && noAdd K (He.ga K c')
theorem addB_ok {K : PySem.W.Frag} (h : addB c cs K = true) : AddC (gK K) c cs := by
  obtain ⟨h1, h2⟩ := He.ba h
  refine ⟨h1, fun c' hc => ?_⟩
  obtain ⟨h3, h4⟩ := He.ba (List.all_eq_true.mp h2 c' hc)
  exact ⟨of_decide_eq_true h3, h4⟩
variable {s : S} {Q : D → S → Prop} {E : Ex → S → Prop}
theorem x_ownAddE : ownAddE c cs m a b ρ s Q E = a ρ s (fun x s1 => b ρ s1 (fun y s2 => ∃ v, ((clsS s2 y).bind fun c' => if c' ∈ cs then some () else none) = some v ∧ spcM c m x [y] s2 Q E) E) E := rfl
end
end DL

namespace DL
def runs_D25 := @x_ownAddE
end DL
/-! ### more on lists; keys of the module's dicts -/
namespace DL
open PySem L2
section
variable {g : G} {Z F F' H H' : Hp} {W : WX} {σ : St} {ρ : Env} {st : S} {X : Cx} {e e1 e2 : Expr} {es : List Expr} {pos p : Pos}
/-! a local list or dict is let go, if it is one -/
def frz1 {ε : Type} : D → M ε D := fun d => match d with
  | .ref a => freeze (.ref a)
  | d => pureM d
theorem mono_frz1 {ε : Type} (d : D) : Mono (frz1 d : M ε D) := by
  unfold frz1
  split
  · exact mono_freeze _
  · exact mono_pure _
def frzS (i : Nat) : Env → MS := fun ρ => bindM (up ρ (var i ρ)) fun d => bindM (frz1 d) fun x => pureM (.nx (ρ.set i (some x)))
theorem mono_frzS (i : Nat) (ρ : Env) : Mono (frzS i ρ) := mono_bind (mono_up (mono_var i ρ)) fun d => mono_bind (mono_frz1 d) fun _ => mono_pure _
instance {i : Nat} : MB (frzS i) := ⟨mono_frzS i⟩
theorem fs_frz {s : Stmt} {b : Env → MS} (i : Nat) (h : FS g X W s b) : FS g X W s (seqS (frzS i) b) := fs_pre (fun Dn σ H ⟨Z, F, st, ρ, E, N, q⟩ => by
  obtain ⟨d, e, q⟩ := varO_inv q
  obtain ⟨v, e', rv⟩ := N.env.2 i _ e
  have same : ∀ {x : DL.D}, RelD g F x v → REnv g F σ (ρ.set i (some x)) := fun r => by
    have := N.env.set (i := i) r
    rw [list_set_same e'] at this
    exact this
  cases d with
  | ref a =>
    obtain ⟨a, o, x, ea, hm, ho, q⟩ := q
    cases ea
    obtain ⟨F', s, sim, r⟩ := N.sim.freeze hm ho
    refine q σ F' H s sim ?_
    unfold RelD at rv
    subst rv
    have := (N.env.mono s).set (i := i) r
    rw [list_set_same e'] at this
    exact this
  | non => exact q σ F H (Same.refl _) N.sim (same rv)
  | bl _ => exact q σ F H (Same.refl _) N.sim (same rv)
  | int _ => exact q σ F H (Same.refl _) N.sim (same rv)
  | str _ => exact q σ F H (Same.refl _) N.sim (same rv)
  | tup _ => exact q σ F H (Same.refl _) N.sim (same rv)
  | lst _ => exact q σ F H (Same.refl _) N.sim (same rv)
  | dic _ _ => exact q σ F H (Same.refl _) N.sim (same rv)
  | ins _ _ _ => exact q σ F H (Same.refl _) N.sim (same rv)
  | cls _ => exact q σ F H (Same.refl _) N.sim (same rv)
  | cst _ => exact q σ F H (Same.refl _) N.sim (same rv)
  | ty _ => exact q σ F H (Same.refl _) N.sim (same rv)
  | scr => exact q σ F H (Same.refl _) N.sim (same rv)) (mono_frzS i) h
/-! list(x), a new list that may change -/
def lcpO (ds : List D) (st : S) : Option (List D) := (one ds).bind fun d => seqD st d
def lcpM (a : Env → M Ex (List D)) : Env → M Ex D := fun ρ => bindM (a ρ) fun ds => bindM (seeM (lcpO ds)) fun xs => newM (.lst xs)
instance {a : Env → M Ex (List D)} [MB a] : MB (lcpM a) := ⟨fun ρ => mono_bind (MB.mono ρ) fun _ => mono_bind (mono_see _) fun _ => mono_new⟩
theorem fe_lcpM {a : Env → M Ex (List D)} (hK : X.K = g.K) (hg : Gl X "list") (hm : X.mg "list" = none) (ha : FA g X W (e :: es) a) (he : starEach (e :: es) X.env = (false, eval e X.env) :: starEach es X.env := by rfl) (hpl : (backTo pos (starEach es X.env)).any (·.1) = false := by rfl) :
    FE g X W (.Call (.Name "list" p) (e :: es) [] pos) (lcpM a) := by
  refine ⟨PE.imp (pe_callTy call_list_of hg hm (by decide +kernel) ha.pa (by decide) (by decide) he hpl) fun σ H Q ⟨Z, F, st, ρ, E, N, q⟩ => ?_, fun ρ => mono_bind (ha.mono ρ) fun _ => mono_bind (mono_see _) fun _ => mono_new⟩
  refine tX.go (R1 := RelDs g) N (ha.mono ρ) (fun _ => mono_bind (mono_see _) fun _ => mono_new) q fun ds vs F st H1 e N r q => ?_
  obtain ⟨xs, h1, q⟩ := q
  obtain ⟨d, h0, h1⟩ := Option.bind_eq_some_iff.mp h1
  cases one_inv h0
  obtain ⟨v, vs', rfl, r1, r2⟩ := r.cons_inv
  rw [r2.nil_inv]
  obtain ⟨a', us, rfl, hs, hr⟩ := N.sim.seq r1 h1
  rw [← hK] at hs
  refine ⟨a', us, rfl, hs, fun l nl => ?_⟩
  obtain ⟨nF, nS⟩ := N.sim.free nl
  exact q l nS _ F _ (Same.refl _) (N.sim.put nF (.inl nl) ⟨us, upd_same, hr⟩) relD_ref
/-! xs + ys, lists -/
def addLD : P2 := fun x y st => (lstOf st x).bind fun xs => (lstOf st y).bind fun ys => if xs.length + ys.length ≤ sizeLine then some (.lst (xs ++ ys)) else none
theorem lst_of {x : D} {v : V} {xs : List D} (sim : Sim g Z st F H) (r : RelD g F x v) (h : lstOf st x = some xs) : ∃ a vs, v = .ref a ∧ H a = some (.lst vs) ∧ RelDs g F xs vs := by
  unfold lstOf at h
  split at h
  · cases h
    unfold RelD at r
    obtain ⟨a, vs, rfl, h1, h2⟩ := r
    exact ⟨a, vs, rfl, sim.same _ _ h1, h2⟩
  · rename_i a
    unfold RelD at r
    obtain ⟨vs, h1, h2⟩ := sim.lst h
    exact ⟨a, vs, r, h1, h2⟩
  · cases h
theorem od_addL : OpD g X (binaryOp .Add) addLD := OpD.of fun dx dy Z F st d e => by
  obtain ⟨xs, h1, e⟩ := Option.bind_eq_some_iff.mp e
  obtain ⟨ys, h2, e⟩ := Option.bind_eq_some_iff.mp e
  split at e
  · rename_i hl
    cases e
    refine ⟨_, op_cat, fun x y H Q sim hx hy q => ?_⟩
    obtain ⟨a, vs, rfl, ha, r1⟩ := lst_of sim hx h1
    obtain ⟨b, us, rfl, hb, r2⟩ := lst_of sim hy h2
    refine ⟨a, b, vs, us, rfl, rfl, ha, hb, by rw [r1.len, r2.len]; exact hl, fun p np => ?_⟩
    have s := same_upd (o := .lst (vs ++ us)) (sim.free np).1
    exact q _ _ _ s (sim.new np) (by unfold RelD; exact ⟨p, _, rfl, upd_same, (r1.append r2).mono s⟩)
  · cases e
/-! xs[lo:hi], a list that may change -/
def sliceL (a : Env → M Ex D) (l h : Env → M Ex (Option Int)) : Env → M Ex D := fun ρ => bindM (a ρ) fun x => bindM (l ρ) fun lo => bindM (h ρ) fun hi => seeM fun st => (lstOf st x).map fun xs => .lst (cutD xs lo hi)
instance {a : Env → M Ex D} {l h : Env → M Ex (Option Int)} [MB a] [MB l] [MB h] : MB (sliceL a l h) := ⟨fun ρ => mono_bind (MB.mono ρ) fun _ => mono_bind (MB.mono ρ) fun _ => mono_bind (MB.mono ρ) fun _ => mono_see _⟩
def rSlL (g : G) : V → Option Int → Option Int → Hp → VK → Prop := fun x lo hi H Q => ∃ Z F st dx xs, Sim g Z st F H ∧ RelD g F dx x ∧ lstOf st dx = some xs ∧ Res g (RelD g) Z F Q (.lst (cutD xs lo hi)) st
theorem slr_slL (hK : X.K = g.K) : SlR X (rSlL g) := by
  intro pins s σ H x v vl vu lo hi sl Q I rx hsl hl hu ⟨Z, F, st, dx, xs, sim, hx, e, q⟩
  obtain ⟨a, vs, rfl, h1, r1⟩ := lst_of sim hx e
  refine sl_list pins s σ H _ v vl vu lo hi sl Q I rx hsl hl hu ⟨a, vs, rfl, SqL.of h1, fun p np => ?_⟩
  have s := same_upd (o := .lst (cutV vs lo hi)) (sim.free np).1
  exact q _ _ _ s (sim.new np) (by unfold RelD; exact ⟨p, _, rfl, upd_same, (r1.cut lo hi).mono s⟩)
theorem fe_sliceL {lo hi : Option Expr} {a : Env → M Ex D} {l h : Env → M Ex (Option Int)} {p2 : Pos} (hK : X.K = g.K) (ha : FE g X W e a) (hl : FO g X W lo l) (hh : FO g X W hi h) : FE g X W (.Subscript e (.Slice lo hi none p2) pos) (sliceL a l h) :=
  ⟨PE.imp (pe_slice (slr_slL hK) ha.pe hl.po hh.po) fun σ H Q ⟨Z, F, st, ρ, E, N, q⟩ => tX.go N (ha.mono ρ) (fun _ => mono_bind (hl.mono ρ) fun _ => mono_bind (hh.mono ρ) fun _ => mono_see _) q fun dx x F st H1 e N rx q =>
    tX.go (R1 := fun _ a b => a = b) N (hl.mono ρ) (fun _ => mono_bind (hh.mono ρ) fun _ => mono_see _) q fun lo lo' F2 st H2 e2 N el q => tX.go (R1 := fun _ a b => a = b) N (hh.mono ρ) (fun _ => mono_see _) q fun hi hi' F3 st H3 e3 N eh q => by
      subst el; subst eh
      obtain ⟨d, ed, q⟩ := q
      obtain ⟨xs, h1, rfl⟩ := Option.map_eq_some_iff.mp ed
      exact ⟨Z, F3, st, dx, xs, N.sim, (rx.mono e2).mono e3, h1, q⟩,
   fun ρ => mono_bind (ha.mono ρ) fun _ => mono_bind (hl.mono ρ) fun _ => mono_bind (hh.mono ρ) fun _ => mono_see _⟩
/-! x in a dict of the module -/
def keyS? : Value → Option Str
  | .str x _ => some x
  | _ => none
def tabK (K : PySem.W.Frag) (a : Addr) (t : List (Str × D)) : Bool := match K.lookup a with
  | some ⟨_, _, .dict es _, _⟩ => decide (es.toList.map (fun e => keyS? e.key) = t.map fun q => some q.1)
  | _ => false
theorem keys_find {es : List DictEntry} {ks : List Str} {z : Str} (h : es.map (fun e => keyS? e.key) = ks.map some) : (es.find? fun e => e.key.isStr z).isSome = decide (z ∈ ks) ∧ es.any (·.refKey) = false := by
  induction es generalizing ks with
  | nil =>
    cases ks with
    | nil => exact ⟨rfl, rfl⟩
    | cons _ _ => cases h
  | cons e es ih =>
    cases ks with
    | nil => cases h
    | cons k ks =>
      obtain ⟨h1, h2⟩ := List.cons.inj h
      obtain ⟨i1, i2⟩ := ih h2
      obtain ⟨hash, key, val⟩ := e
      cases key with
      | str x t =>
        have hx : x = k := Option.some.inj h1
        subst hx
        refine ⟨?_, ?_⟩
        · by_cases hz : x = z
          · subst hz
            rw [List.find?_cons_of_pos (by show (x == x) = true; simp)]
            simp
          · rw [List.find?_cons_of_neg (by show ¬ (x == z) = true; simpa using hz), i1]
            have : ¬ z = x := fun q => hz q.symm
            simp [this]
        · rw [List.any_cons, i2]; rfl
      | _ => cases h1
theorem ns_keys {K : PySem.W.Frag} {a : Addr} {t : List (Str × D)} {z : Str} (h : tabK K a t = true) : ∃ r, PySem.W.nsIn K a z = some r ∧ r.isSome = decide (z ∈ t.map (·.1)) := by
  unfold tabK at h
  split at h
  · rename_i es n sl ho
    have hk := keys_find (es := es.toList) (ks := t.map (·.1)) (z := z) ((of_decide_eq_true h).trans (by simp))
    unfold PySem.W.nsIn
    rw [ho]
    simp only
    cases e : es.toList.find? (fun e => e.key.isStr z) with
    | some x => exact ⟨_, rfl, by rw [← hk.1, e]; rfl⟩
    | none =>
      rw [hk.2]
      exact ⟨none, rfl, by rw [← hk.1, e]; rfl⟩
  · cases h
def tinD (c : Str) (t : List (Str × D)) (neg : Bool) : P2 := fun x y _ => match x, y with
  | .str z, .cst c' => if c' = c then some (.bl (decide (z ∈ t.map (·.1)) ^^ neg)) else none
  | _, _ => none
theorem tin_inv {c : Str} {t : List (Str × D)} {neg : Bool} {x y d : D} (h : tinD c t neg x y st = some d) : ∃ z, x = .str z ∧ y = .cst c ∧ d = .bl (decide (z ∈ t.map (·.1)) ^^ neg) := by
  unfold tinD at h
  split at h
  · split at h
    · rename_i e
      cases h
      exact ⟨_, rfl, by rw [e], rfl⟩
    · cases h
  · cases h
theorem od_tin {c : Str} {t : List (Str × D)} (hK : X.K = g.K) (T : TabOk g X.w c t) (TK : tabK g.K (g.cs c) t = true) : OpD g X (compareOp .In) (tinD c t false) := by
  obtain ⟨es, n, D⟩ := T.dict
  rw [← hK] at D TK
  refine OpR.imp (op_in_kd D) fun x y H Q ⟨Z, F, st, dx, dy, d, sim, hx, hy, e, q⟩ => ?_
  obtain ⟨z, rfl, rfl, rfl⟩ := tin_inv e
  unfold RelD at hx hy
  obtain ⟨r, h1, h2⟩ := ns_keys (z := z) TK
  have := q (.bl (decide (z ∈ t.map (·.1)) ^^ false)) F H (Same.refl _) sim relD_bl
  exact ⟨z, r, hx, hy, h1, by rw [h2]; simpa using this⟩
theorem od_tnotin {c : Str} {t : List (Str × D)} (hK : X.K = g.K) (T : TabOk g X.w c t) (TK : tabK g.K (g.cs c) t = true) : OpD g X (compareOp .NotIn) (tinD c t true) := by
  obtain ⟨es, n, D⟩ := T.dict
  rw [← hK] at D TK
  refine OpR.imp (op_notIn_kd D) fun x y H Q ⟨Z, F, st, dx, dy, d, sim, hx, hy, e, q⟩ => ?_
  obtain ⟨z, rfl, rfl, rfl⟩ := tin_inv e
  unfold RelD at hx hy
  obtain ⟨r, h1, h2⟩ := ns_keys (z := z) TK
  have := q (.bl (decide (z ∈ t.map (·.1)) ^^ true)) F H (Same.refl _) sim relD_bl
  exact ⟨z, r, hx, hy, h1, by rw [h2]; simpa using this⟩
/-! running -/
variable {s : S} {Q : D → S → Prop} {E : Ex → S → Prop} {QF : Fl → S → Prop} {EE : Ex × Env → S → Prop}
theorem x_frzS {i : Nat} : frzS i ρ s QF EE = varO ρ[i]? s (fun d s1 => frz1 d s1 (fun x s2 => QF (.nx (ρ.set i (some x))) s2) EE) (fun x s' => EE (x, ρ) s') := rfl
theorem x_frz_ref {a : Addr} : (frz1 (.ref a) : M (Ex × Env) D) s Q EE = freeze (.ref a) s Q EE := rfl
theorem x_frz_lst {xs : List D} : (frz1 (.lst xs) : M (Ex × Env) D) s Q EE = Q (.lst xs) s := rfl
theorem x_frz_dic {ks : List Key} {vs : List D} : (frz1 (.dic ks vs) : M (Ex × Env) D) s Q EE = Q (.dic ks vs) s := rfl
theorem x_lcpM {a : Env → M Ex (List D)} : lcpM a ρ s Q E = a ρ s (fun ds s1 => ∃ xs, lcpO ds s1 = some xs ∧ ∀ a, s1.map a = none → Q (.ref a) (s1.set a (.lst xs))) E := rfl
theorem lcp_one {d : D} : lcpO [d] s = seqD s d := rfl
theorem x_sliceL {a : Env → M Ex D} {l h : Env → M Ex (Option Int)} : sliceL a l h ρ s Q E = a ρ s (fun x s1 => l ρ s1 (fun lo s2 => h ρ s2 (fun hi s3 => ∃ v, ((lstOf s3 x).map fun xs => D.lst (cutD xs lo hi)) = some v ∧ Q v s3) E) E) E := rfl
theorem tin_eq {c z : Str} {t : List (Str × D)} {neg : Bool} : tinD c t neg (.str z) (.cst c) s = some (.bl (decide (z ∈ t.map (·.1)) ^^ neg)) := if_pos rfl
end
end DL

namespace DL
def runs_D26 := And.intro @x_frzS (And.intro @x_frz_ref (And.intro @x_frz_lst (And.intro @x_frz_dic (And.intro @x_lcpM (And.intro @lcp_one (And.intro @x_sliceL (@tin_eq)))))))
end DL
/-! ### own exceptions over LookupError, Exception, .. : the class's base told by its facts -/
namespace DL
open PySem L2
/-- a built-in base: how it makes, begins, stores -/
structure XB (B nw ini : String) (tl : List Value) : Prop where
  fa : ExcBaseFacts B nw ini tl
  st : StoreFacts B tl "object.__setattr__" "object"
theorem xb_Lookup : XB "LookupError" "LookupError.__new__" "LookupError.__init__" [.type "LookupError", .type "Exception", .type "BaseException", .type "object"] := ⟨F.excBase_LookupError, F.store_LookupError⟩
theorem xb_Exception : XB "Exception" "Exception.__new__" "Exception.__init__" [.type "Exception", .type "BaseException", .type "object"] := ⟨F.excBase_Exception, F.store_Exception⟩
/-- what the written part says of such a class -/
structure OexG (k : PySem.W.Frag) (c : Addr) (nw : String) (tl : List Value) : Prop where
  obj : ∃ n1 n2 a1 l1 l2 b1 b2 b3 b4 b5 z0 z1 z2 z3 z5, k.lookup c = some (excClassObj n1 n2 c a1 l1 l2 true b1 b2 b3 b4 b5 z0 z1 z2 z3 z5 nw) ∧ PySem.W.excTail tl l2 = true
  sets : PySem.W.findIn k (.ref c) "__setattr__" = some (some (.builtin "object.__setattr__"))
  isx : PySem.W.subIn k (.ref c) (.type "BaseException") = some true
  ty : PySem.W.typeIn k (.ref c) = some (.type "type")
  kp : PySem.W.keepIn k (.ref c) = true
section
open PySem.W PyProof.Rows PySem.HandSPX Builtin Builtin.ObjectAttr
variable {P : Program} {wo : World} {Ar : Around} {Rs : Result → Shared → Prop} {hp : Heap} {gs : Array GenState} {dr : Drawn} {tk0 : Nat} {os0 : OsState} {k : Frag} {c x dx : Addr} {B nw ini : String} {tl : List Value} {nm : Str} {tk : Tok} {v : Value} {fv : Array Value}
theorem OexG.over (T : OexG k c nw tl) : excOver k c tl = true ∧ ∃ cd, clsIn k c = some cd ∧ cd.hasDict = true := by
  obtain ⟨n1, n2, a1, l1, l2, b1, b2, b3, b4, b5, z0, z1, z2, z3, z5, hc, ht⟩ := T.obj
  have e : clsIn k c = some { name := n1, bases := l1, mro := .ref c :: l2, ns := a1, qualname := n2, hasDict := true, slotNames := b1, subclasses := b2, abstract := b3, collection := b4, hasDel := false } := by
    unfold clsIn
    rw [hc]
  refine ⟨?_, _, e, rfl⟩
  unfold excOver
  rw [e]
  show (c == c && excTail tl l2) = true
  rw [ht]
  simp
theorem taker_none (h : findIn k (.ref c) nm = some none) : takerIn k c nm = some none := by
  unfold takerIn
  rw [h]
  rfl
/-- the first field: the dict is made -/
theorem set_first (b : XB B nw ini tl) (T : OexG k c nw tl) (hin : k.In hp) (ho : hp.get? x = some { cls := .ref c, data := .fields fv }) (hn : findIn k (.ref c) nm = some none)
    (hq : ∀ h2 t2 dx, (∀ b o, b ≠ x → hp.get? b = some o → h2.get? b = some o) → hp.objs.size ≤ dx → dx ≠ x → h2.get? x = some { cls := .ref c, dict := some dx, data := .fields fv } →
      h2.Ns1 dx (fun y => if y = nm then some v else none) → Rs (.ok (.ret .none)) ⟨h2, gs, dr, t2, os0⟩) :
    codeAny (model P wo) Ar (.call (.builtin "object.__setattr__") ⟨[.ref x, .str nm tk, v], []⟩) Rs ⟨hp, gs, dr, tk0, os0⟩ := by
  obtain ⟨hov, cd, hcd, hdd⟩ := T.over
  have hne : x ≠ hp.objs.size := Nat.ne_of_lt (Heap.lt_size ho)
  have hin0 : InstAt hp x { cls := .ref c, data := .fields fv } c none := ⟨ho, rfl, rfl, trivial⟩
  have lk : Looks (model P wo) hp (classData c) cd := looks_clsIn hin hcd
  refine osa_openX (s := ⟨hp, gs, dr, tk0, os0⟩) b.st hin hin0 hov (taker_none hn) fun bo => ?_
  dsimp only
  obtain ⟨_, _, _, _, _, hdd', _, _, _, _, _⟩ := cd
  dsimp only at hdd
  subst hdd
  unfold storeInOwnDict ownDictForStores
  repeat (first
    | with_reducible refine wpAny_loadPart_at ho ?_
    | with_reducible refine lk.at ?_
    | with_reducible refine store_in_new ?_ ?_
    | wp_step)
  · exact ⟨_, #[], _,
      (Heap.get?_update_ne _ _ _ _ hne.symm).trans (Heap.get?_push_at rfl rfl),
      rfl, fun e he => absurd he (by simp), fun _ => rfl⟩
  · intro h2 t2 n2 sb
    refine hq h2 t2 hp.objs.size (fun b o hb hbo => ?_) (Nat.le_refl _) hne.symm ?_ n2
    · exact (sb.2 b (Nat.ne_of_lt (Heap.lt_size hbo))).trans ((Heap.get?_update_ne _ _ _ _ hb).trans (Heap.get?_push_of_some _ hbo))
    · exact (sb.2 x hne).trans (Heap.get?_update_self _ (Heap.get?_push_of_some _ ho) rfl)
/-- a further field -/
theorem set_more {m0 : Str → Option Value} {nl : List Str} (b : XB B nw ini tl) (T : OexG k c nw tl) (hin : k.In hp) (ho : hp.get? x = some { cls := .ref c, dict := some dx, data := .fields fv }) (hns : hp.Ns1 dx m0) (hw : Within m0 nl) (hz : nl.length ≤ 1000) (hn : findIn k (.ref c) nm = some none)
    (hq : ∀ h2 t2, (∀ b o, b ≠ dx → hp.get? b = some o → h2.get? b = some o) → h2.Ns1 dx (fun y => if y = nm then some v else m0 y) → Rs (.ok (.ret .none)) ⟨h2, gs, dr, t2, os0⟩) :
    codeAny (model P wo) Ar (.call (.builtin "object.__setattr__") ⟨[.ref x, .str nm tk, v], []⟩) Rs ⟨hp, gs, dr, tk0, os0⟩ := by
  obtain ⟨hov, cd, hcd, hdd⟩ := T.over
  obtain ⟨oD, _, _, hoD, _, _⟩ := hns.count hw
  have hin0 : InstAt hp x { cls := .ref c, dict := some dx, data := .fields fv } c (some oD) := ⟨ho, rfl, rfl, hoD⟩
  have lk : Looks (model P wo) hp (classData c) cd := looks_clsIn hin hcd
  refine osa_openX (s := ⟨hp, gs, dr, tk0, os0⟩) b.st hin hin0 hov (taker_none hn) fun bo => ?_
  dsimp only
  obtain ⟨_, _, _, _, _, hdd', _, _, _, _, _⟩ := cd
  dsimp only at hdd
  subst hdd
  unfold storeInOwnDict ownDictForStores
  repeat (first
    | with_reducible refine wpAny_loadPart_at ho ?_
    | with_reducible refine lk.at ?_
    | with_reducible refine PySem.OEX.store_in_old hns hw hz ?_
    | wp_step)
  intro h2 t2 n2 sb
  exact hq h2 t2 (fun b o hb hbo => (sb.2 b hb).trans hbo) n2
end
section
variable {X : Cx} {pins : List (Addr × Obj)} {σ : St} {H : Hp} {s : Shared} {a c dx : Addr} {f : Str} {y : V} {u : Value} {fs : List (Str × V)} {B nw ini : String} {tl : List Value} {A : Around} {Ex0 : Value → Shared → Prop}
theorem upd_self {o : HO} (h : H a = some o) : upd H a o = H := by
  funext b
  by_cases e : b = a
  · subst e; rw [upd_same, h]
  · rw [upd_ne e]
/-- self.f = y, ahead of all others -/
theorem gst_new {Q : Unit → Shared → Prop} (b : XB B nw ini tl) (T : OexG X.K c nw tl) (I : Inv X pins σ H s) (e : H a = some (exo a c none)) (hn : PySem.W.findIn X.K (.ref c) f = some none) (ry : RelV y u)
    (q : ∀ dx s2, H dx = none → dx ≠ a → Inv X pins σ (upd (upd H dx (exd dx [(f, y)])) a (exo a c (some dx))) s2 → Q () s2) : wpAny (model X.prog X.w) A (setAttr (.ref a) f u) Q Ex0 s := by
  obtain ⟨t1, ho⟩ := exo_at I.hok e
  obtain ⟨hp, gs, dr, tk, os⟩ := s
  refine PySem.W.set_plain I.kIn (od := none) ⟨ho, rfl, rfl, trivial⟩ T.sets ?_
  refine set_first b T I.kIn ho hn fun h2 t2 dx kp fr dne hx n2 => ?_
  have hnd : H dx = none := I.hok.fresh fr
  have n1 : ∀ {z : Addr}, H z = none → z ≠ a := fun {z} n w => by rw [w, e] at n; cases n
  have n3 : ∀ {z : Addr} {o : Obj}, hp.get? z = some o → z ≠ dx := fun {z o} w => Nat.ne_of_lt (Nat.lt_of_lt_of_le (Heap.lt_size w) fr)
  have up2 : ∀ {z : Addr} {w : HO}, z ≠ a → H z = some w → (upd (upd H dx (exd dx [(f, y)])) a (exo a c (some dx))) z = some w := fun {z w} h1 h2 => by
    rw [upd_ne h1, upd_ne (ne_of_none h2 hnd)]; exact h2
  have U : Un X.fs [] H (upd (upd H dx (exd dx [(f, y)])) a (exo a c (some dx))) hp h2 :=
    ⟨fun z o w n _ _ => kp z o (n1 n) w, fun z o w n _ _ => ⟨o.slots, kp z o (n1 n) w⟩, fun z o w n _ => by rw [upd_ne (n1 n), upd_ne (n3 w)]; exact n,
     fun z o w _ => by
      by_cases hz : z = a
      · subst hz; exact ⟨_, hx⟩
      · exact ⟨o, kp z o hz w⟩,
     fun z xs w => up2 (at_ne e w exo_tup) w, fun z o v w => up2 (at_ne e w exo_frz) w, fun z ps w => ⟨#[], by rw [up2 (at_ne e w exo_tbl) w]; simp⟩⟩
  refine q dx _ hnd dne (I.un (t' := t2) U fun z o w => ?_)
  by_cases hz : z = a
  · subst hz
    rw [upd_same] at w
    cases w
    exact exo_ok hx
  rw [upd_ne hz] at w
  by_cases hd : z = dx
  · subst hd
    rw [upd_same] at w
    cases w
    exact exd_ok n2 (relO_put (fs := []) ry fun _ => True.intro)
  rw [upd_ne hd] at w
  refine (I.hok z o w).stay (fun z2 v2 hc w2 => kp z2 v2 ?_ w2) (fun z2 hc => up2 (at_ne e hc exo_own) hc) fun z2 xs hc => up2 (at_ne e hc exo_tup) hc
  rcases hc with hc | hc
  · rw [hc]; exact hz
  · exact at_ne e hc exo_own
/-- .. behind others -/
theorem gst_old {Q : Unit → Shared → Prop} (b : XB B nw ini tl) (T : OexG X.K c nw tl) (I : Inv X pins σ H s) (e : H a = some (exo a c (some dx))) (ed : H dx = some (exd dx fs)) (hl : fs.length ≤ 900) (hn : PySem.W.findIn X.K (.ref c) f = some none) (ry : RelV y u)
    (q : ∀ s2, Inv X pins σ (upd H dx (exd dx ((f, y) :: fs))) s2 → Q () s2) : wpAny (model X.prog X.w) A (setAttr (.ref a) f u) Q Ex0 s := by
  obtain ⟨t1, ho⟩ := exo_at I.hok e
  obtain ⟨mA, hns, rel⟩ := exd_at I.hok ed
  obtain ⟨hp, gs, dr, tk, os⟩ := s
  obtain ⟨oD, _, _, hoD, _, _⟩ := hns.count (within_of rel)
  refine PySem.W.set_plain I.kIn (od := some oD) ⟨ho, rfl, rfl, hoD⟩ T.sets ?_
  refine set_more b T I.kIn ho hns (within_of rel) (by rw [List.length_map]; omega) hn fun h2 t2 kp n2 => ?_
  have hd : ∃ o, h2.get? dx = some o := let ⟨o, _, _, w, _⟩ := n2; ⟨o, w⟩
  exact q _ (I.write (t' := t2) (x := dx) (e := dx) (o := exd dx ((f, y) :: fs)) (by rw [ed]; exact True.intro) (.inl rfl) kp hd (exd_ok n2 (relO_put ry rel)))
/-- the base's own __init__ -/
theorem gin_ok {us : List Value} {Q : Value → Shared → Prop} (b : XB B nw ini tl) (T : OexG X.K c nw tl) (I : Inv X pins σ H s) (e : H a = some (exo a c none)) (hl : us.length ≤ sizeLine) (q : ∀ s2, Inv X pins σ H s2 → Q .none s2) :
    wpAny (model X.prog X.w) A (call (.builtin ini) (.ref a :: us)) Q Ex0 s := by
  obtain ⟨n1, n2, a1, l1, l2, b1, b2, b3, b4, b5, z0, z1, z2, z3, z5, hc, ht⟩ := T.obj
  obtain ⟨t1, ho⟩ := exo_at I.hok e
  obtain ⟨hp, gs, dr, tk, os⟩ := s
  refine wpAny_call (PySem.HandSPX.init_base b.fa (fun Y => PySem.W.excTail_contains Y l2 ht) (I.kIn _ _ hc) ho hl fun h2 t2 kp hx => ?_)
  have J := I.write (t' := tk) (x := a) (e := a) (o := exo a c none) (by rw [e]; exact True.intro) (.inl rfl) kp ⟨_, hx⟩ (exo_ok hx)
  rw [upd_self e] at J
  exact q _ J
end
end DL

/-! ### dict == dict, dict != dict: flat values -/
namespace DL
open PySem L2
section
variable {g : G} {Z F F' H H' : Hp} {W : WX} {σ : St} {ρ : Env} {st : S} {X : Cx}
def hitsV (ls : List (Key × V)) : List (Key × V) → Bool
  | [] => true
  | p :: r => match valV ls p.1 with
    | none => false
    | some y => eqV p.2 y && hitsV ls r
theorem valV_mem {ls : List (Key × V)} {k : Key} {y : V} (h : valV ls k = some y) : ∃ p, p ∈ ls ∧ p.2 = y := by
  obtain ⟨q, h1, h2⟩ := Option.map_eq_some_iff.mp h
  exact ⟨q, List.mem_of_find?_eq_some h1, h2⟩
theorem hits_any {A : Around} {s : Shared} {ls : List (Key × V)} {vb : List (Key × Value)} (rb : KV ls vb) (fl : ∀ p ∈ ls, flatV p.2 = true) {ks : List (Key × V)} {va : List (Key × Value)} (ra : KV ks va) :
    (∀ p ∈ ks, flatV p.2 = true) → PySem.W.KeqHits A s vb va (hitsV ls ks) := by
  unfold KV at ra
  induction ra with
  | nil => intro _; exact .nil
  | @cons p q ps qs h t ih =>
    intro hp
    obtain ⟨h1, h2⟩ := h
    have rr := rb.val p.1
    obtain ⟨k, v⟩ := q
    have h1' : p.1 = k := h1
    have ih := ih fun p' hm => hp p' (List.mem_cons_of_mem _ hm)
    unfold hitsV
    cases e : valV ls p.1 with
    | none =>
      rw [e] at rr
      have hy := rr.none_of
      rw [h1'] at hy
      exact .miss hy
    | some y =>
      rw [e] at rr
      obtain ⟨u, hy, ry⟩ := rr.some_of
      rw [h1'] at hy
      obtain ⟨z, hz, ez⟩ := valV_mem e
      exact .hit hy (eqAt_V h2 ry (hp p List.mem_cons_self) (by rw [← ez]; exact fl z hz)) ih
def rEqK (neg : Bool) : R2 := fun x y H Q => ∃ a b ks ls, x = .ref a ∧ y = .ref b ∧ H a = some (.dK ks) ∧ H b = some (.dK ls) ∧ (∀ p ∈ ks, flatV p.2 = true) ∧ (∀ p ∈ ls, flatV p.2 = true) ∧ Q (.bl ((ks.length == ls.length && hitsV ls ks) ^^ neg)) H
theorem op_eqK (hu : X.A.units < cLine) : OpR X (compareOp .Eq) (rEqK false) := by
  intro pins s σ H x y v u Q I rx ry h
  obtain ⟨a, b, ks, ls, rfl, rfl, ea, eb, f1, f2, q⟩ := h
  obtain rfl : v = Value.ref a := rx
  obtain rfl : u = Value.ref b := ry
  obtain ⟨_, ya, va, ra, da⟩ := (show ObjOk X.prog X.w H s.heap a (.dK ks) from I.hok a _ ea)
  obtain ⟨_, yb, vb, rb, db⟩ := (show ObjOk X.prog X.w H s.heap b (.dK ls) from I.hok b _ eb)
  exact PySem.W.keq_eq (knd := mixKind X.prog X.w) (r := hitsV ls ks) ya yb da db hu (fun _ => hits_any rb f2 ra f1) (fin_bl I q (by rw [ra.length, rb.length, Bool.xor_false]))
theorem op_neK (hu : X.A.units < cLine) : OpR X (compareOp .NotEq) (rEqK true) := by
  intro pins s σ H x y v u Q I rx ry h
  obtain ⟨a, b, ks, ls, rfl, rfl, ea, eb, f1, f2, q⟩ := h
  obtain rfl : v = Value.ref a := rx
  obtain rfl : u = Value.ref b := ry
  obtain ⟨_, ya, va, ra, da⟩ := (show ObjOk X.prog X.w H s.heap a (.dK ks) from I.hok a _ ea)
  obtain ⟨_, yb, vb, rb, db⟩ := (show ObjOk X.prog X.w H s.heap b (.dK ls) from I.hok b _ eb)
  exact PySem.W.keq_ne (knd := mixKind X.prog X.w) (r := hitsV ls ks) ya yb da db hu (fun _ => hits_any rb f2 ra f1) (fin_bl I q (by rw [ra.length, rb.length, Bool.xor_true]))
def kvV : List (Key × D) → Option (List (Key × V))
  | [] => some []
  | (k, d) :: r => (scalV d).bind fun v => (kvV r).map fun vs => (k, v) :: vs
theorem scalV_flatV {d : D} {v : V} (h : scalV d = some v) : flatV v = true := by
  cases d <;> first | (cases h; done) | (cases (Option.some.inj h); rfl)
theorem kvV_rel : ∀ {kds : List (Key × D)} {kvs us : List (Key × V)}, kvV kds = some us → kvs.map (·.1) = kds.map (·.1) → RelDs g F (kds.map (·.2)) (kvs.map (·.2)) → kvs = us ∧ ∀ p ∈ us, flatV p.2 = true
  | [], kvs, us, h, e, _ => by
    cases (Option.some.inj h)
    exact ⟨List.map_eq_nil_iff.mp e, fun _ h => by cases h⟩
  | (k, d) :: r, [], us, h, e, _ => by cases e
  | (k, d) :: r, (k', v') :: kvs, us, h, e, rr => by
    obtain ⟨v, h1, h⟩ := Option.bind_eq_some_iff.mp (show ((scalV d).bind fun v => (kvV r).map fun vs => (k, v) :: vs) = some us from h)
    obtain ⟨vs, h2, rfl⟩ := Option.map_eq_some_iff.mp h
    obtain ⟨e1, e2⟩ := List.cons.inj e
    have e1 : k' = k := e1
    obtain ⟨x, xs, e3, r1, r2⟩ := rr.cons_inv
    obtain ⟨rfl, rfl⟩ := List.cons.inj e3
    obtain ⟨i1, i2⟩ := kvV_rel h2 e2 r2
    have e4 := scalV_rel h1 r1
    have e4 : v' = v := e4
    subst e1 e4 i1
    refine ⟨rfl, fun p hp => ?_⟩
    rcases List.mem_cons.mp hp with rfl | hp
    · exact scalV_flatV h1
    · exact i2 p hp
def eqKB (st : S) (x y : D) : Option Bool := (dicOf st x).bind fun ks => (dicOf st y).bind fun ls => (kvV ks).bind fun us => (kvV ls).map fun vs => us.length == vs.length && hitsV vs us
def eqKD : P2 := fun x y st => (eqKB st x y).map .bl
def neKD : P2 := fun x y st => (eqKB st x y).map fun b => .bl (!b)
theorem eqKB_rel {x y : D} {b : Bool} (h : eqKB st x y = some b) (neg : Bool) {v u : V} {H : Hp} {Q : VK} (sim : Sim g Z st F H) (hx : RelD g F x v) (hy : RelD g F y u) (q : Q (.bl (b ^^ neg)) H) : rEqK neg v u H Q := by
  obtain ⟨ks, h1, h⟩ := Option.bind_eq_some_iff.mp h
  obtain ⟨ls, h2, h⟩ := Option.bind_eq_some_iff.mp h
  obtain ⟨us, h3, h⟩ := Option.bind_eq_some_iff.mp h
  obtain ⟨vs, h4, rfl⟩ := Option.map_eq_some_iff.mp h
  obtain ⟨a, kv1, rfl, a1, a2, a3⟩ := sim.dicOf hx h1
  obtain ⟨c, kv2, rfl, b1, b2, b3⟩ := sim.dicOf hy h2
  obtain ⟨rfl, f1⟩ := kvV_rel h3 a2 a3
  obtain ⟨rfl, f2⟩ := kvV_rel h4 b2 b3
  exact ⟨a, c, _, _, rfl, rfl, a1, b1, f1, f2, q⟩
theorem od_eqK (hu : X.A.units + 64 < cLine) : OpD g X (compareOp .Eq) eqKD := OpD.of fun dx dy Z F st d e => by
  obtain ⟨b, hb, rfl⟩ := Option.map_eq_some_iff.mp e
  exact ⟨_, op_eqK (by omega), fun x y H Q sim hx hy q => eqKB_rel hb false sim hx hy (by rw [Bool.xor_false]; exact q _ F H (Same.refl _) sim relD_bl)⟩
theorem od_neK (hu : X.A.units + 64 < cLine) : OpD g X (compareOp .NotEq) neKD := OpD.of fun dx dy Z F st d e => by
  obtain ⟨b, hb, rfl⟩ := Option.map_eq_some_iff.mp e
  exact ⟨_, op_neK (by omega), fun x y H Q sim hx hy q => eqKB_rel hb true sim hx hy (by rw [Bool.xor_true]; exact q _ F H (Same.refl _) sim relD_bl)⟩
end
end DL

/-! ### own exceptions over LookupError, Exception: begun, made, raised -/
namespace DL
open PySem PySem.Spec PyProof.Rows L2
def tGe (K : PySem.W.Frag) (nw : String) (tl : List Value) (ta : TA) : TE := fun σ H Q => ta σ H fun vs H1 => ∃ (a c : Addr) (ws : List V), vs = .ref a :: ws ∧ ws.length ≤ 1000 ∧ OexG K c nw tl ∧ H1 a = some (exo a c none) ∧ Q .non H1
def tGst (K : PySem.W.Frag) (nw : String) (tl : List Value) (f : Str) (to te : TE) : TS := fun D σ H => te σ H fun y H1 => to σ H1 fun x H2 => ∃ a c : Addr, x = .ref a ∧ OexG K c nw tl ∧ PySem.W.findIn K (.ref c) f = some none ∧
  ((H2 a = some (exo a c none) ∧ ∀ dx, H2 dx = none → dx ≠ a → D.nx σ (upd (upd H2 dx (exd dx [(f, y)])) a (exo a c (some dx)))) ∨
    ∃ (dx : Addr) (fs : List (Str × V)), H2 a = some (exo a c (some dx)) ∧ H2 dx = some (exd dx fs) ∧ fs.length ≤ 900 ∧ D.nx σ (upd H2 dx (exd dx ((f, y) :: fs))))
section
variable {X : Cx} {o e : Expr} {es : List Expr} {to te : TE} {ta : TA} {f : Str} {p p' p1 p2 pos : Pos} {B nw ini : String} {tl : List Value}
theorem ps_gst (b : XB B nw ini tl) (ho : PE X o to) (he : PE X e te) (hs : swapsWith e (some (.Attribute o f p')) pos.line X.env = pure false := by rfl) : PS X (.Assign [.Attribute o f p'] e pos) (tGst X.K nw tl f to te) := by
  refine ⟨fun pins s σ H D I h => ?_⟩
  refine plainObj_wpAny_Assign_Attribute (thn (he.run pins s σ H _ I h) fun v s1 ⟨y, H1, I1, r1, q1⟩ => thn (ho.run pins s1 σ H1 _ I1 q1) fun u s2 ⟨x, H2, I2, r2, a, c, ex, T, hno, q⟩ => ?_) hs
  subst ex
  obtain rfl : u = Value.ref a := r2
  rcases q with ⟨ea, q⟩ | ⟨dx, fs, ea, ed, hl, q⟩
  · exact gst_new b T I2 ea hno r1 fun dx s' n ne J => ⟨σ, _, J, q dx n ne⟩
  · exact gst_old b T I2 ea ed hl hno r1 fun s' J => ⟨σ, _, J, q⟩
/-- x.__init__(self, ..), x an own class without an __init__ -/
theorem pe_ginit (b : XB B nw ini tl) {Bc : Addr} {x : Str} {pl : Sem Bool} (hg : Gl X x) (hm : X.mg x = some (.ref Bc)) (r : ClX.CRead X.K Bc (.type "type")) (v : PySem.W.findCls X.K (.ref Bc) (.type "type") "__init__" = some (.val (.builtin ini))) (ha : PA X (e :: es) ta)
    (hh : PySem.W.handedIn (.builtin ini) = true := by decide +kernel) (hdb : (x == ("__debug__" : Str)) = false := by decide)
    (hc : eval (.Call (.Attribute (.Name x p1) "__init__" p2) (e :: es) [] pos) X.env = (do
      let ov ← eval (.Name x p1) X.env
      standAt p2.atName
      let (f, first) ← holding [ov] (getMethod ov "__init__" pl)
      callWith pos f first (backTo pos (starEach (e :: es) X.env)) (backToKw pos (keywordEach [] X.env))) := by rfl)
    (he : starEach (e :: es) X.env = (false, eval e X.env) :: starEach es X.env := by rfl) (hpl : (backTo pos (starEach es X.env)).any (·.1) = false := by rfl) :
    PE X (.Call (.Attribute (.Name x p1) "__init__" p2) (e :: es) [] pos) (tGe X.K nw tl ta) := by
  refine ⟨fun pins s σ H Q I h => PySem.W.methodCall_KW (ld_glob I hg hm ?_ hdb) hc⟩
  refine PySem.W.method_cls I.kIn r.ga (PySem.W.cls_value I.kIn r.rd v hh ?_)
  show wpAny _ _ (callWith pos (Value.builtin ini) [] (backTo pos (starEach (e :: es) X.env)) []) _ _ _
  refine PyProof.Rows.callWith_method1 (thn (ha.run pos pins _ σ H _ (I.tok _) h) fun us s1 ⟨vs, H1, I1, r1, a, c, ws, ev, hl, T, ea, q⟩ => ?_) he hpl
  subst ev
  cases r1 with
  | @cons _ u0 _ ur ra rw' =>
    cases (show u0 = Value.ref a from ra)
    exact gin_ok b T I1 ea (by rw [← Paired.length rw', sizeLine_eq]; omega) fun s' J => ⟨.non, H1, J, rfl, q⟩
/-- x.__init__(self, ..), x a built-in class -/
theorem pe_gbinit (b : XB B nw ini tl) {x : Str} {T0 : String} {pl : Sem Bool} (hg : Gl X x) (hm : X.mg x = none) (hB : bootBuiltins x = some (.type T0)) (ht : typeOf (.type T0) = pure (.type "type")) (hs : Manifest.isStub T0 = false)
    (v : PySem.W.findCls X.K (.type T0) (.type "type") "__init__" = some (.val (.builtin ini))) (ha : PA X (e :: es) ta) (hh : PySem.W.handedIn (.builtin ini) = true := by decide +kernel)
    (hnn : x ≠ ("__name__" : Str) := by decide) (hdb : (x == ("__debug__" : Str)) = false := by decide)
    (hc : eval (.Call (.Attribute (.Name x p1) "__init__" p2) (e :: es) [] pos) X.env = (do
      let ov ← eval (.Name x p1) X.env
      standAt p2.atName
      let (f, first) ← holding [ov] (getMethod ov "__init__" pl)
      callWith pos f first (backTo pos (starEach (e :: es) X.env)) (backToKw pos (keywordEach [] X.env))) := by rfl)
    (he : starEach (e :: es) X.env = (false, eval e X.env) :: starEach es X.env := by rfl) (hpl : (backTo pos (starEach es X.env)).any (·.1) = false := by rfl) :
    PE X (.Call (.Attribute (.Name x p1) "__init__" p2) (e :: es) [] pos) (tGe X.K nw tl ta) := by
  refine ⟨fun pins s σ H Q I h => ?_⟩
  refine PySem.W.methodCall_KW (ld_blt I hg hm hB ?_ hnn hdb) hc
  obtain ⟨m, fr⟩ := I.fr
  refine PySem.W.method_type fr I.ok.mod.kin ht hs v hh ?_
  show wpAny _ _ (callWith pos (Value.builtin ini) [] (backTo pos (starEach (e :: es) X.env)) []) _ _ _
  refine PyProof.Rows.callWith_method1 (thn (ha.run pos pins _ σ H _ (I.tok _) h) fun us s1 ⟨vs, H1, I1, r1, a, c, ws, ev, hl, T, ea, q⟩ => ?_) he hpl
  subst ev
  cases r1 with
  | @cons _ u0 _ ur ra rw' =>
    cases (show u0 = Value.ref a from ra)
    exact gin_ok b T I1 ea (by rw [← Paired.length rw', sizeLine_eq]; omega) fun s' J => ⟨.non, H1, J, rfl, q⟩
/-- c(e, ..), an exception made -/
theorem pmk_g {CX : CXT} {x : Str} {c fI : Addr} {k : Nat} {fd : FuncData} {ps : List Str} {sp : Sp} {ds : List Value} {dvs : List V} (b : XB B nw ini tl) (T : OexG X.K c nw tl) (iC : PySem.W.findIn X.K (.ref c) "__init__" = some (some (.ref fI))) (tI : PySem.W.typeIn X.K (.ref fI) = some (.type "function"))
    (F1 : FnOk X.prog X.w X.K X.mg X.base CX k fI fd ps sp) (hr : Room (k + 1) X.A) (hb : Binds X.K fd ps ds) (hd : Vals dvs ds) (hx : Passes CX X (fun _ _ _ => False)) (hg : Gl X x) (hm : X.mg x = some (.ref c)) (ha : PA X (e :: es) ta)
    (hdb : (x == ("__debug__" : Str)) = false := by decide) (he : starEach (e :: es) X.env = (false, eval e X.env) :: starEach es X.env := by rfl) (hpl : (backTo pos (starEach es X.env)).any (·.1) = false := by rfl) :
    PMk X (.Call (.Name x p) (e :: es) [] pos) (tMkO c sp dvs ta) := by
  intro pins s σ H Q I h
  obtain ⟨n1, n2, a1, l1, l2, b1, b2, b3, b4, b5, z0, z1, z2, z3, z5, hC, ht⟩ := T.obj
  refine wpAny_Call_Name_kw (ld_glob I hg hm ?_ hdb)
  refine PySem.W.callWith_K (h₀ := X.base) I.ok.mod.kin T.kp (thn (ha.run pos pins s σ H _ I h) fun us s1 ⟨vs, H1, I1, r1, hz, q1⟩ => ⟨I1.kIn, ?_⟩) he hpl
  show wpAny _ _ (call (.ref c) us) _ _ _
  obtain ⟨hp, g, dr, tk, os⟩ := s1
  have hsz : hp.objs.size ≤ hp.objs.size + 1 := Nat.le_succ _
  have hn : H1 (hp.objs.size + 1) = none := I1.hok.fresh hsz
  have hq := q1 (hp.objs.size + 1) hn
  have kk : ∀ b o, hp.get? b = some o → ((hp.push (PySem.W.kdv_tup us)).push (PySem.HandSPX.excO c hp.objs.size)).get? b = some o := fun b o e => Heap.get?_push_of_some _ (Heap.get?_push_of_some _ e)
  have hget : ((hp.push (PySem.W.kdv_tup us)).push (PySem.HandSPX.excO c hp.objs.size)).get? (hp.objs.size + 1) = some (PySem.HandSPX.excO c hp.objs.size) := by heap_get
  have I2 : Inv X pins σ (upd H1 (hp.objs.size + 1) (exo (hp.objs.size + 1) c none)) ⟨(hp.push (PySem.W.kdv_tup us)).push (PySem.HandSPX.excO c hp.objs.size), g, dr, tk, os⟩ :=
    I1.laid (t' := tk) (a := hp.objs.size + 1) (o := exo (hp.objs.size + 1) c none) (h' := (hp.push (PySem.W.kdv_tup us)).push (PySem.HandSPX.excO c hp.objs.size)) kk hsz (exo_ok hget)
  have r2 : Vals (V.ref (hp.objs.size + 1) :: (vs ++ dvs)) (Value.ref (hp.objs.size + 1) :: (us ++ ds)) := .cons rfl (r1.append hd)
  have hl : (Value.ref (hp.objs.size + 1) :: us ++ ds).length = ps.length := by
    have e := r2.length
    rw [F1.len _ _ _ _ hq] at e
    exact e.symm
  have hus : us.length ≤ sizeLine := by
    rw [← Paired.length r1, sizeLine_eq]
    omega
  refine wpAny_call (PySem.HandSPX.call_own b.fa (fun Y => PySem.W.excTail_contains Y l2 ht) (I1.kIn _ _ hC) (PySem.W.looks_findIn I1.kIn iC) (fun self => PySem.W.bind_fn I1.kIn self tI) hus
    (codeAny_mono (F1.run _ X.stack _ _ ⟨Value.ref (hp.objs.size + 1) :: us, []⟩ (Value.ref (hp.objs.size + 1) :: (us ++ ds)) _ _ (fun _ _ _ => False) (hr.make c us []) (I2.env0.make c us []) (hb _ (Value.ref (hp.objs.size + 1) :: us) I2.kIn hl) r2 hq) fun r s' hq' => ?_))
  cases r with
  | error er => exact hx pins σ _ _ er s' I2 hq'
  | ok fl =>
    cases fl with
    | ret u =>
      obtain ⟨v, H2, os2, bare2, un2, hok2, rv, ev, d, fs, ea, ed, hd1, q2⟩ := hq'
      subst ev
      obtain ⟨h2, g2, d2, t2, os'⟩ := s'
      exact ⟨rv, mk_end (raises_own T.isx T.ty) I1 hsz kk un2 hok2 os2 bare2 ea ed hd1 q2⟩
    | next => exact False.elim hq'
    | brk => exact False.elim hq'
    | cont => exact False.elim hq'
end
/-! over data -/
section
variable {g : G} {Z F F' H H' : Hp} {W : WX} {σ : L2.St} {ρ : DL.Env} {st : S} {X : Cx} {e : Expr} {es : List Expr} {pos p : Pos} {B nw ini : String} {tl : List Value}
theorem fs_raiseG {CX : CXT} {c : Str} {ns : List Str} {fI : Addr} {k : Nat} {fd : FuncData} {ps : List Str} {m : DL.Env → M Ex (List D)} {pos' : Pos} (b : XB B nw ini tl) (hK : X.K = g.K) (T : OexG g.K (g.cl c) nw tl) (iC : PySem.W.findIn g.K (.ref (g.cl c)) "__init__" = some (some (.ref fI))) (tI : PySem.W.typeIn g.K (.ref fI) = some (.type "function"))
    (F1 : FnOk X.prog X.w X.K X.mg X.base CX k fI fd ps (spX (g.cl c) ns)) (hr : Room (k + 1) X.A) (hb : Binds X.K fd ps []) (hx : Passes CX X (fun _ _ _ => False)) (hc : X.calm = true) (tk : Takes X W) (hg : Gl X c) (hm : X.mg c = some (.ref (g.cl c))) (hl : ns.length ≤ 900) (ha : FA g X W (e :: es) m)
    (hdb : (c == ("__debug__" : Str)) = false := by decide) (he : starEach (e :: es) X.env = (false, eval e X.env) :: starEach es X.env := by rfl) (hpl : (backTo pos (starEach es X.env)).any (·.1) = false := by rfl) :
    FS g X W (.Raise (some (.Call (.Name c p) (e :: es) [] pos)) none pos') (raiseS c ns m) := by
  rw [← hK] at T iC tI
  refine ⟨PS.imp (ps_raise hc tk (pmk_g b T iC tI F1 hr hb .nil hx hg hm ha.pa hdb he hpl)) fun D σ H ⟨Z, F, st, ρ, E, N, q⟩ => ?_, mono_raiseS ha.mono⟩
  refine tS.go (R1 := RelDs g) N (ha.mono ρ) (fun _ => mono_ite (mono_raise _) mono_fail) q fun ds vs F st H1 e N r q => ?_
  by_cases hn : ds.length = ns.length
  · rw [if_pos hn] at q
    refine ⟨by rw [r.len, hn]; omega, fun a na => ⟨a, vs, by rw [List.append_nil], r.len.trans hn, upd_same, fun dx nd hd => ⟨rfl, dx, _, upd_same, by rw [upd_ne hd, upd_same], by rw [upd_ne hd] at nd; exact nd, ?_⟩⟩⟩
    rw [upd_ne hd] at nd
    rw [heap_x na hd]
    have s2 := same_upd (o := .xd (ns.zip vs).reverse) (N.sim.free nd).1
    have hlv : vs.length = ns.length := r.len.trans hn
    refine N.lk _ _ _ _ _ _ _ _ s2 (N.sim.new nd) (N.env.mono s2) ⟨rfl, .inr ⟨dx, _, rfl, upd_same, ?_, ?_⟩⟩ q
    · rw [List.map_reverse, List.map_fst_zip (Nat.le_of_eq hlv.symm)]
    · rw [List.map_reverse, List.map_snd_zip (Nat.le_of_eq hlv)]
      exact (r.mono s2).rev
  · rw [if_neg hn] at q
    exact q.elim
end
/-! facts -/
section
def oexOG (nw : String) (tl : List Value) (K : PySem.W.Frag) (C : Addr) : Bool := match K.lookup C with
  | some ⟨.type t, _, .cls cd, sl⟩ => decide (t = "type") && ((match cd.mro, sl.toList with
    | .ref C' :: bm, [_, _, _, _, some (.builtin n), _] => decide (C' = C) && (decide (n = nw) && PySem.W.excTail tl bm)
    | _, _ => false) && (cd.hasDict && !cd.hasDel))
  | _ => false
theorem oexOG_ok {nw : String} {tl : List Value} {K : PySem.W.Frag} {C : Addr} (h : oexOG nw tl K C = true) : ∃ n1 n2 a1 l1 l2 b1 b2 b3 b4 b5 z0 z1 z2 z3 z5, K.lookup C = some (excClassObj n1 n2 C a1 l1 l2 true b1 b2 b3 b4 b5 z0 z1 z2 z3 z5 nw) ∧ PySem.W.excTail tl l2 = true := by
  unfold oexOG at h
  split at h
  · rename_i t dd cd sl ho
    obtain ⟨h0, h⟩ := He.ba h
    obtain ⟨h1, hq⟩ := He.ba h
    obtain ⟨h2, h3⟩ := He.ba hq
    clear hq h
    split at h1
    · rename_i C' bm k0 k1 k2 k3 n k5 hm hs
      obtain ⟨a1, h1⟩ := He.ba h1
      obtain ⟨a2, a3⟩ := He.ba h1
      obtain ⟨nm, bs, mro, ns, qn, hd, sn, sub, ab, col, del⟩ := cd
      obtain ⟨sl⟩ := sl
      simp only at hm hs h2 h3
      have h3 : del = false := by simpa using h3
      have e0 := of_decide_eq_true h0
      have e1 := of_decide_eq_true a1
      have e2 := of_decide_eq_true a2
      subst hm hs h2 h3 e0 e1 e2
      exact ⟨_, _, _, _, _, _, _, _, _, _, _, _, _, _, _, ho, a3⟩
    · cases h1
  · cases h
def oexGB (nw : String) (tl : List Value) (K : PySem.W.Frag) (C : Addr) : Bool := oexOG nw tl K C && (decide (PySem.W.findIn K (.ref C) "__setattr__" = some (some (.builtin "object.__setattr__"))) && (decide (PySem.W.subIn K (.ref C) (.type "BaseException") = some true) && (decide (PySem.W.typeIn K (.ref C) = some (.type "type")) && PySem.W.keepIn K (.ref C))))
theorem oexGB_ok {nw : String} {tl : List Value} {K : PySem.W.Frag} {C : Addr} (h : oexGB nw tl K C = true) : OexG K C nw tl := by
  obtain ⟨h1, h⟩ := He.ba h
  obtain ⟨h2, h⟩ := He.ba h
  obtain ⟨h3, h⟩ := He.ba h
  obtain ⟨h4, h5⟩ := He.ba h
  exact ⟨oexOG_ok h1, of_decide_eq_true h2, of_decide_eq_true h3, of_decide_eq_true h4, h5⟩
def ginB (ini : String) (K : PySem.W.Frag) (c : Str) : Bool := match PySem.W.findCls K (.ref (He.ga K c)) (.type "type") "__init__" with
  | some (.val (.builtin b)) => decide (b = ini)
  | _ => false
theorem ginB_ok {ini : String} {K : PySem.W.Frag} {c : Str} (h : ginB ini K c = true) : PySem.W.findCls K (.ref (He.ga K c)) (.type "type") "__init__" = some (.val (.builtin ini)) := by
  unfold ginB at h
  split at h
  · rename_i b e
    rw [e, of_decide_eq_true h]
  · cases h
def gibB (T ini : String) (K : PySem.W.Frag) : Bool := match PySem.W.findCls K (.type T) (.type "type") "__init__" with
  | some (.val (.builtin b)) => decide (b = ini)
  | _ => false
theorem gibB_ok {T ini : String} {K : PySem.W.Frag} (h : gibB T ini K = true) : PySem.W.findCls K (.type T) (.type "type") "__init__" = some (.val (.builtin ini)) := by
  unfold gibB at h
  split at h
  · rename_i b e
    rw [e, of_decide_eq_true h]
  · cases h
abbrev tlLookup : List Value := [.type "LookupError", .type "Exception", .type "BaseException", .type "object"]
abbrev tlExc : List Value := [.type "Exception", .type "BaseException", .type "object"]
variable {P : Program} {w : World} {K : PySem.W.Frag} {mg : Str → Option Value} {base : Heap} {x qual : Str} {params : Arguments} {body : List Stmt} {scope : Scope} {f : Addr} {fd : FuncData} {N ps : List Str} {C : Addr} {f1 f2 m : Str} {B nw ini : String} {tl : List Value}
theorem okG1 (F : FunD K x qual params body scope [] [] f fd) (S : FnScope N ps scope) (hp : ps.length = 2) (T : OexG K C nw tl) (n1 : NoAttr K C f1) (hst : ∀ v0 v1, L2.start N [v0, v1] = [some v0, some v1])
    (hb : ∀ (cdv : Value) (A : Around) (outer : List PySem.Env) (s : Shared) (H : Hp) (E : XK), PSs (cxOf CX0 P w K mg base N qual scope f cdv A outer s H E).nox body (tSeq (tDrop (tGe K nw tl (tCons (tVar 0) (tCons (tC (.str m)) tNil)))) (tGst K nw tl f1 (tVar 0) (tVar 1)))) :
    FnOk P w K mg base CX0 1 f fd ps (spX C [f1]) := by
  refine okD0 F S (fun vs H Q E ⟨a, ws, e, hl, _⟩ => ?_) (fun cdv A outer s H vs Q E hr ⟨a, ws, e, hl, ea, q⟩ => ⟨_, hb cdv A outer s H E, ?_⟩)
  · subst e
    show ws.length + 1 = _
    rw [hl, hp]; rfl
  · subst e
    match ws, hl, q with
    | [y], _, q =>
      rw [hst]
      exact ⟨_, rfl, a, C, _, rfl, (show 1 ≤ 1000 by decide), T, ea, _, rfl, _, rfl, a, C, rfl, T, n1, .inl ⟨ea, fun dx nd hd => q dx nd hd⟩⟩
end
end DL

/-! ### the run of the top, looked at in parts, at places that are told -/
namespace DL
open PySem L2
section
variable {fb fb1 fb2 : List (PySem.W.Frag → Bool)} {fn fn1 fn2 : List Df} {ts ts1 ts2 : List He.Tab} {w : World} {K : PySem.W.Frag} {as : List Addr}
theorem obsN_app (h1 : obsN fb1 fn1 ts1 K = valN fn1 ts1 w) (h2 : obsN fb2 fn2 ts2 K = valN fn2 ts2 w) : obsN (fb1 ++ fb2) (fn1 ++ fn2) (ts1 ++ ts2) K = valN (fn1 ++ fn2) (ts1 ++ ts2) w := by
  unfold obsN valN at *
  simp only [Prod.mk.injEq, Bool.and_eq_true] at h1 h2 ⊢
  obtain ⟨⟨⟨a1, a2⟩, a3⟩, a4⟩ := h1
  obtain ⟨⟨⟨b1, b2⟩, b3⟩, b4⟩ := h2
  refine ⟨⟨⟨?_, ?_⟩, ?_⟩, ?_⟩
  · rw [List.all_append, a1, b1]; rfl
  · rw [List.all_append, a2, b2]; rfl
  · rw [List.map_append, List.map_append, a3, b3]
  · rw [List.map_append, List.map_append, a4, b4]
def obsL (as : List Addr) (fb : List (PySem.W.Frag → Bool)) (fn : List Df) (ts : List He.Tab) (g : Addr → Option Obj) : AlN := obsN fb fn ts (He.frG g as)
def hookL (as : List Addr) (fb : List (PySem.W.Frag → Bool)) (fn : List Df) (ts : List He.Tab) : PySem.W.Hook where
  α := AlN
  obs := fun s => obsL as fb fn ts s.heap.get?
  val := fun w => valN fn ts w
  says := fun w h => ∃ K : PySem.W.Frag, K.In h ∧ SaysN fb fn ts w K
  of := fun _ _ e => ⟨_, He.frG_in, e⟩
  keeps := fun _ _ _ ⟨K, hK, c⟩ k => ⟨K, PySem.W.Frag.In.keeps hK k, c⟩
theorem obsL_eq {g : Addr → Option Obj} {s : Shared} (h : ∀ a, g a = s.heap.get? a) : obsL as fb fn ts g = (hookL as fb fn ts).obs s := by
  have e : g = s.heap.get? := funext h
  rw [e] <;> rfl
def RunPart (X : Option PySem.W.SharedT) (as : List Addr) (fb : List (PySem.W.Frag → Bool)) (fn : List Df) (ts : List He.Tab) (w : World) : Prop := X.map (fun s => obsL as fb fn ts (HandSHeadRun.getT s)) = some (valN fn ts w)
theorem RunPart.app {X : Option PySem.W.SharedT} (h1 : RunPart X as fb1 fn1 ts1 w) (h2 : RunPart X as fb2 fn2 ts2 w) : RunPart X as (fb1 ++ fb2) (fn1 ++ fn2) (ts1 ++ ts2) w := by
  cases X with
  | none => cases h1
  | some s =>
    have e1 := Option.some.inj h1
    have e2 := Option.some.inj h2
    exact congrArg some (obsN_app e1 e2)
theorem run_join {r : PySem.W.OpenRow} {q : Program} {M : Nat} {loose : List PySem.Str}
    (h1 : ∀ os : OsState, (HandSHeadRun.endF (HandSHeadRun.stepQ (HandSHeadRun.denQ HandSHeadRun.tabQ) r.prog w) M r.prog w os).map (fun s => (HandSHeadRun.looksF r.prog (PySem.W.boot_heap w.params) s.abs, HandSHeadRun.seenQ q loose (PySem.importedModules r.prog.main.body) (fun s => PySem.W.xlAt q [] s && PySem.W.recOk r.toRowW.records s) s.abs)) = some (true, PySem.W.openGood q loose))
    (h2 : ∀ os : OsState, RunPart (HandSHeadRun.endF (HandSHeadRun.stepQ (HandSHeadRun.denQ HandSHeadRun.tabQ) r.prog w) M r.prog w os) as fb fn ts w) :
    HandSHeadRun.RunEq r q (hookL as fb fn ts) (fun s => obsL as fb fn ts (HandSHeadRun.getT s)) M loose w := fun os => by
  have z1 := h1 os
  have z2 := h2 os
  unfold RunPart at z2
  cases e : HandSHeadRun.endF (HandSHeadRun.stepQ (HandSHeadRun.denQ HandSHeadRun.tabQ) r.prog w) M r.prog w os with
  | none => rw [e] at z2; cases z2
  | some s =>
    rw [e] at z1 z2
    have e1 := Option.some.inj z1
    have e2 := Option.some.inj z2
    have f1 := congrArg Prod.fst e1
    have f2 := congrArg Prod.snd e1
    exact congrArg some (Prod.ext f1 (Prod.ext f2 e2))
end
end DL

/-! ### ("a", "b").index(x), sorted(ints) -/
namespace DL
open PySem L2
section
variable {g : G} {Z F F' H H' : Hp} {W : WX} {σ : St} {ρ : Env} {st : S} {X : Cx} {e e1 e2 : Expr} {to te : TE}
/-- (x, ..).m(y), the tuple a display -/
def tMT (r : V → List V → Hp → VK → Prop) (t : TA) (te : TE) : TE := fun σ H Q => t σ H fun xs H1 => xs.length ≤ sizeLine ∧ ∀ p, H1 p = none → te σ (upd H1 p (.tup xs)) fun y H2 => r (.ref p) [y] H2 Q
theorem pe_mT {es : List Expr} {x1 p2} {e : Expr} {id : String} {name : Str} {apos pos : Pos} {t : TA} {te : TE} {r : V → List V → Hp → VK → Prop} (slot : Slot "tuple" name id) (ty : typeOf (.builtin id) = pure (.type "method_descriptor")) (rule : MtR X id r) (ha : PA X es t) (he : PE X e te)
    (hs : starEach [e] X.env = [(false, eval e X.env)] := by rfl) (hbase : attributeBase (.Tuple es x1 p2) name X.env (eval (.Tuple es x1 p2) X.env) = eval (.Tuple es x1 p2) X.env := by rfl) (hline : (apos.endLine == pos.line) = true := by rfl) :
    PE X (.Call (.Attribute (.Tuple es x1 p2) name apos) [e] [] pos) (tMT r t te) := by
  refine ⟨fun pins s σ H Q I h => ?_⟩
  refine PySem.Call_method1 hbase hs hline ?_
  refine wpAny_Tuple_spliced (thn (ha.run p2 pins s σ H _ I h) fun us s1 ⟨xs, H1, I1, r1, z, q⟩ => ⟨by rw [← r1.length]; exact z, ?_⟩)
  have hf : H1 s1.heap.objs.size = none := I1.hok.fresh (Nat.le_refl _)
  have ho := Heap.get?_push_size s1.heap (o := ({ cls := .type "tuple", data := .seq us.toArray } : Obj)) rfl
  have I2 := I1.laid (o := .tup xs) (t' := s1.toks) (h' := s1.heap.push ({ cls := .type "tuple", data := .seq us.toArray } : Obj)) (fun b u e => Heap.get?_push_of_some _ e) (Nat.le_refl _) ⟨z, us, r1, ⟨_, ho, rfl, _, rfl⟩⟩
  refine ⟨"tuple", _, F.plainAttrs_tuple, slot, ty, ⟨_, ho, rfl⟩, (fun a e => by cases e; exact ⟨_, ho, rfl⟩), Calls.callWith_builtin rfl (Calls.evalArgs_plain (Calls.spliced_cons ?_))⟩
  exact thn (he.run pins _ σ _ _ I2 (q _ hf)) fun u s2 ⟨y, H2, I3, r2, q2⟩ => Calls.spliced_nil (rule pins s2 σ H2 (.ref s1.heap.objs.size) [y] _ [u] Q I3 rfl (.cons r2 .nil) q2)
def mT (f : P2) (a : Env → M Ex (List D)) (v : Env → M Ex D) : Env → M Ex D := fun ρ => bindM (a ρ) fun ds => bindM (needM (ds.length ≤ sizeLine)) fun _ => bindM (v ρ) fun y => seeM (f (.tup ds) y)
theorem mono_mT {f : P2} {a : Env → M Ex (List D)} {v : Env → M Ex D} (ha : ∀ ρ, Mono (a ρ)) (hv : ∀ ρ, Mono (v ρ)) (ρ : Env) : Mono (mT f a v ρ) := mono_bind (ha ρ) fun _ => mono_bind (mono_need _) fun _ => mono_bind (hv ρ) fun _ => mono_see _
theorem fe_mT {es : List Expr} {x1 p2} {id : String} {name : Str} {apos pos : Pos} {f : P2} {a : Env → M Ex (List D)} {v : Env → M Ex D} (slot : Slot "tuple" name id) (ty : typeOf (.builtin id) = pure (.type "method_descriptor")) (rule : MtR X id (rM1 g f)) (ha : FA g X W es a) (hv : FE g X W e2 v)
    (hs : starEach [e2] X.env = [(false, eval e2 X.env)] := by rfl) (hbase : attributeBase (.Tuple es x1 p2) name X.env (eval (.Tuple es x1 p2) X.env) = eval (.Tuple es x1 p2) X.env := by rfl) (hline : (apos.endLine == pos.line) = true := by rfl) :
    FE g X W (.Call (.Attribute (.Tuple es x1 p2) name apos) [e2] [] pos) (mT f a v) := by
  refine ⟨PE.imp (pe_mT slot ty rule ha.pa hv.pe hs hbase hline) fun σ H Q ⟨Z, F, st, ρ, E, N, q⟩ => ?_, mono_mT ha.mono hv.mono⟩
  refine tX.go (R1 := RelDs g) N (ha.mono ρ) (fun _ => mono_bind (mono_need _) fun _ => mono_bind (hv.mono ρ) fun _ => mono_see _) q fun ds vs F st H1 e1 N r q => ?_
  obtain ⟨hl, q⟩ := q
  refine ⟨by rw [r.len]; exact hl, fun p np => ?_⟩
  have s := same_upd (o := .tup vs) (N.sim.free np).1
  have rx : RelD g (upd F p (.tup vs)) (.tup ds) (.ref p) := by unfold RelD; exact ⟨p, vs, rfl, SqT.of upd_same, r.mono s⟩
  replace q := mono_bind (hv.mono ρ) (fun y => mono_see (f (.tup ds) y)) _ _ _ _ _ (fun d s1 (z : Res g (RelD g) Z F Q d s1) => z.mono s) (fun _ _ x => x) q
  refine tX.go (R1 := RelD g) (N.step s (N.sim.new np)) (hv.mono ρ) (fun _ => mono_see _) q fun dy y F st H2 e2 N ry q => ?_
  obtain ⟨d, ed, q⟩ := q
  exact ⟨y, rfl, _, F, st, .tup ds, dy, d, N.sim, rx.mono e2, ry, ed, q⟩
def idxS (z : Str) : List Str → Option Nat
  | [] => none
  | y :: ys => if y = z then some 0 else (idxS z ys).map (· + 1)
theorem idxS_ok {z : Str} : ∀ {ys : List Str} {j : Nat}, idxS z ys = some j → ys[j]? = some z ∧ ∀ m, m < j → ys[m]? ≠ some z
  | [], _, h => by cases h
  | y :: ys, j, h => by
    unfold idxS at h
    split at h
    · rename_i e
      cases h
      exact ⟨by rw [e]; rfl, fun m hm => absurd hm (Nat.not_lt_zero _)⟩
    · rename_i e
      obtain ⟨i, h1, rfl⟩ := Option.map_eq_some_iff.mp h
      obtain ⟨h2, h3⟩ := idxS_ok h1
      refine ⟨h2, fun m hm => ?_⟩
      cases m with
      | zero => intro hh; exact e (Option.some.inj hh)
      | succ m => exact h3 m (Nat.lt_of_succ_lt_succ hm)
def idxD : P2 := fun x y _ => match x, y with
  | .tup ds, .str z => (strsOf ds).bind fun ys => (idxS z ys).map fun j => .int (j : Nat)
  | _, _ => none
theorem mr_idx (hK : X.K = g.K) : MtR X "tuple.index" (rM1 g idxD) := MtR.imp mt_tup_index fun x xs H Q ⟨y, e, Z, F, st, dx, dy, d, sim, rx, ry, h, q⟩ => by
  unfold idxD at h
  split at h
  · rename_i ds z
    obtain ⟨ys, h1, h⟩ := Option.bind_eq_some_iff.mp h
    obtain ⟨j, h2, rfl⟩ := Option.map_eq_some_iff.mp h
    obtain ⟨h3, h4⟩ := idxS_ok h2
    unfold RelD at rx ry
    obtain ⟨a, us, rfl, h5, h6⟩ := rx
    obtain rfl := strsOf_rel h1 h6
    refine hK ▸ ?_
    exact ⟨a, ys, z, j, rfl, by rw [e, ry], sqT_mono sim.same h5, h3, h4, q _ F H (Same.refl _) sim relD_int⟩
  · cases h
def intsOf : List D → Option (List Int)
  | [] => some []
  | .int z :: ds => (intsOf ds).map fun r => z :: r
  | _ :: _ => none
theorem intsOf_rel : ∀ {ds : List D} {vs : List V} {ys : List Int}, intsOf ds = some ys → RelDs g F ds vs → vs = ys.map V.int
  | [], _, _, e, r => by cases e; exact r.nil_inv
  | d :: ds, _, _, e, r => by
    obtain ⟨v, vs, rfl, r1, r2⟩ := r.cons_inv
    cases d with
    | int z =>
      obtain ⟨ys, h1, rfl⟩ := Option.map_eq_some_iff.mp e
      unfold RelD at r1
      rw [r1, intsOf_rel h1 r2]; rfl
    | _ => cases e
theorem rel_zs (F : Hp) : ∀ ys : List Int, RelDs g F (ys.map .int) (ys.map V.int)
  | [] => .nil
  | y :: ys => .cons relD_int (rel_zs F ys)
def sortZ (ns : List Int) : List Int := ns.mergeSort (fun x y => decide (x ≤ y))
theorem sortZ_perm (ns : List Int) : (sortZ ns).Perm ns := List.mergeSort_perm _ _
theorem sortZ_rises (ns : List Int) : (sortZ ns).Pairwise (· ≤ ·) := by
  have h := List.pairwise_mergeSort (le := fun x y : Int => decide (x ≤ y)) (fun a b c h1 h2 => by simp only [decide_eq_true_eq] at *; omega) (fun a b => by simp only [Bool.or_eq_true, decide_eq_true_eq]; omega) ns
  exact h.imp fun hh => of_decide_eq_true hh
theorem sortZ_uniq {ns ms : List Int} (h : ms.Perm ns) (k : ms.Pairwise (· ≤ ·)) : ms = sortZ ns :=
  List.Perm.eq_of_pairwise (fun _ _ _ _ a b => Int.le_antisymm a b) k (sortZ_rises ns) (h.trans (sortZ_perm ns).symm)
def sortedF : PN := fun ds st => (one ds).bind fun d => (lstOf st d).bind fun xs => (intsOf xs).map fun ns => .lst ((sortZ ns).map .int)
theorem cr_sortedD (hK : X.K = g.K) : CallR X (.builtin "sorted") (rN g sortedF) := CallR.imp cr_sortedI fun vs H Q ⟨Z, F, st, ds, d, sim, r, ed, q⟩ => by
  obtain ⟨d1, h0, e⟩ := Option.bind_eq_some_iff.mp ed
  clear ed
  obtain ⟨xs, h1, e⟩ := Option.bind_eq_some_iff.mp e
  obtain ⟨ns, h2, rfl⟩ := Option.map_eq_some_iff.mp e
  cases one_inv h0
  obtain ⟨v, vs, rfl, r1, r2⟩ := r.cons_inv
  rw [r2.nil_inv, hK]
  obtain ⟨a, us, rfl, hs, hr⟩ := lst_of sim r1 h1
  obtain rfl := intsOf_rel h2 hr
  refine ⟨a, ns, rfl, SqL.of hs, fun ms l hp hl nl => ?_⟩
  cases sortZ_uniq hp hl
  have s := same_upd (o := .lst ((sortZ ns).map V.int)) (sim.free nl).1
  exact q _ _ _ s (sim.new nl) (by unfold RelD; exact ⟨l, _, rfl, upd_same, rel_zs _ _⟩)
/-! xs + ys, a new list that may change -/
def addLO (x y : D) (st : S) : Option (List D) := (lstOf st x).bind fun xs => (lstOf st y).bind fun ys => if xs.length + ys.length ≤ sizeLine then some (xs ++ ys) else none
def addLM (a b : Env → M Ex D) : Env → M Ex D := fun ρ => bindM (a ρ) fun x => bindM (b ρ) fun y => bindM (seeM (addLO x y)) fun xs => newM (.lst xs)
theorem mono_addLM {a b : Env → M Ex D} (ha : ∀ ρ, Mono (a ρ)) (hb : ∀ ρ, Mono (b ρ)) (ρ : Env) : Mono (addLM a b ρ) := mono_bind (ha ρ) fun _ => mono_bind (hb ρ) fun _ => mono_bind (mono_see _) fun _ => mono_new
theorem fe_addLM {a b : Env → M Ex D} {pos : Pos} (ha : FE g X W e1 a) (hb : FE g X W e2 b) : FE g X W (.BinOp e1 .Add e2 pos) (addLM a b) := by
  refine ⟨PE.imp (pe_op op_cat ha.pe hb.pe) fun σ H Q ⟨Z, F, st, ρ, E, N, q⟩ => ?_, mono_addLM ha.mono hb.mono⟩
  refine tX.go N (ha.mono ρ) (fun _ => mono_bind (hb.mono ρ) fun _ => mono_bind (mono_see _) fun _ => mono_new) q fun dx x F st H1 e N rx q => ?_
  refine tX.go (R1 := RelD g) N (hb.mono ρ) (fun _ => mono_bind (mono_see _) fun _ => mono_new) q fun dy y F2 st H2 e2 N ry q => ?_
  obtain ⟨xs, ed, q⟩ := q
  obtain ⟨as, h1, ed⟩ := Option.bind_eq_some_iff.mp ed
  obtain ⟨bs, h2, ed⟩ := Option.bind_eq_some_iff.mp ed
  split at ed
  · rename_i hl
    cases ed
    obtain ⟨a, vs, rfl, h3, r1⟩ := lst_of N.sim (rx.mono e2) h1
    obtain ⟨b, us, rfl, h4, r2⟩ := lst_of N.sim ry h2
    refine ⟨a, b, vs, us, rfl, rfl, h3, h4, by rw [r1.len, r2.len]; exact hl, fun p np => ?_⟩
    obtain ⟨nF, nS⟩ := N.sim.free np
    exact q p nS _ F2 _ (Same.refl _) (N.sim.put nF (.inl np) ⟨vs ++ us, upd_same, r1.append r2⟩) relD_ref
  · cases ed
end
section
variable {ρ : Env} {s : S} {Q : D → S → Prop} {E : Ex → S → Prop} {a b : Env → M Ex D} {xs ys : List D} {ns : List Int}
instance {f : P2} {o : Env → M Ex (List D)} {v : Env → M Ex D} [MB o] [MB v] : MB (mT f o v) := ⟨mono_mT MB.mono MB.mono⟩
instance {o v : Env → M Ex D} [MB o] [MB v] : MB (addLM o v) := ⟨mono_addLM MB.mono MB.mono⟩
theorem x_mT {q : P2} {as : Env → M Ex (List D)} : mT q as b ρ s Q E = as ρ s (fun ds s1 => ds.length ≤ sizeLine ∧ b ρ s1 (fun y s2 => ∃ v, q (.tup ds) y s2 = some v ∧ Q v s2) E) E := rfl
theorem x_addLM : addLM a b ρ s Q E = a ρ s (fun x s1 => b ρ s1 (fun y s2 => ∃ xs, addLO x y s2 = some xs ∧ ∀ a, s2.map a = none → Q (.ref a) (s2.set a (.lst xs))) E) E := rfl
theorem addLO_lst (h : xs.length + ys.length ≤ sizeLine) : addLO (.lst xs) (.lst ys) s = some (xs ++ ys) := if_pos h
theorem idxD_ok {zs : List Str} {z : Str} {j : Nat} (h : idxS z zs = some j) : idxD (.tup (zs.map .str)) (.str z) s = some (.int (j : Nat)) := by
  have e : ∀ zs : List Str, strsOf (zs.map D.str) = some zs := by
    intro zs
    induction zs with
    | nil => rfl
    | cons z zs ih => show (strsOf (zs.map D.str)).map _ = _; rw [ih]; rfl
  show ((strsOf (zs.map D.str)).bind fun ys => (idxS z ys).map fun j => D.int (j : Nat)) = _
  rw [e, Option.bind_some, h]; rfl
theorem sorted_ok : sortedF [.lst (ns.map .int)] s = some (.lst ((sortZ ns).map .int)) := by
  have e : ∀ ns : List Int, intsOf (ns.map D.int) = some ns := by
    intro ns
    induction ns with
    | nil => rfl
    | cons z zs ih => show (intsOf (zs.map D.int)).map _ = _; rw [ih]; rfl
  show ((intsOf (ns.map D.int)).map fun ns => D.lst ((sortZ ns).map .int)) = _
  rw [e]; rfl
end
end DL

namespace DL
def runs_D31 := And.intro @x_mT (@x_addLM)
end DL
/-! ### C.m(e, ..), a staticmethod; ** in calls: the model's part -/
namespace DL
open PySem L2
section
variable {g : G} {Z F F' H H' : Hp} {W : WX} {σ : St} {ρ : Env} {st : S} {X : Cx} {e e1 e2 : Expr} {es : List Expr} {pos : Pos} {k : Nat} {f : Addr} {m : Fn} {a : Env → M Ex (List D)}
/-- C.m is a staticmethod: its record at p, its def at g -/
structure CSta (K : PySem.W.Frag) (C : Addr) (mc : Value) (m : Str) (p g : Addr) : Prop where
  at_ : PySem.W.findCls K (.ref C) mc m = some (.get (.builtin "staticmethod.__get__") (.ref p) .none (.ref C))
  rc : ∃ rest, PySem.W.recIn K p "staticmethod" = some (.ref g :: rest)
  kp : PySem.W.keepIn K (.ref g) = true
def smFB (K : PySem.W.Frag) (c m : Str) : Bool := match PySem.W.findCls K (.ref (He.ga K c)) (.type "type") m with
  | some (.get (.builtin b) (.ref p) .none (.ref C)) => decide (b = "staticmethod.__get__") && (decide (p = He.ma K (He.ga K c) m) && decide (C = He.ga K c))
  | _ => false
theorem smFB_ok {K : PySem.W.Frag} {c m : Str} (h : smFB K c m = true) : PySem.W.findCls K (.ref (He.ga K c)) (.type "type") m = some (.get (.builtin "staticmethod.__get__") (.ref (He.ma K (He.ga K c) m)) .none (.ref (He.ga K c))) := by
  unfold smFB at h
  split at h
  · rename_i b p C e
    obtain ⟨h1, h⟩ := He.ba h
    obtain ⟨h2, h3⟩ := He.ba h
    rw [e, of_decide_eq_true h1, of_decide_eq_true h2, of_decide_eq_true h3]
  · cases h
def smAd (K : PySem.W.Frag) (c m : Str) : Addr := match PySem.W.recIn K (He.ma K (He.ga K c) m) "staticmethod" with
  | some (.ref f :: _) => f
  | _ => 0
def smOk (K : PySem.W.Frag) (c m : Str) : Bool := match PySem.W.recIn K (He.ma K (He.ga K c) m) "staticmethod" with
  | some (.ref _ :: _) => true
  | _ => false
theorem sm_rc {K : PySem.W.Frag} {c m : Str} (h : smOk K c m = true) : ∃ rest, PySem.W.recIn K (He.ma K (He.ga K c) m) "staticmethod" = some (.ref (smAd K c m) :: rest) := by
  unfold smOk at h
  unfold smAd
  split at h
  · rename_i f r e
    exact ⟨r, by rw [e]⟩
  · cases h
theorem fe_smeth {c mn : Str} {mc : Value} {pp : Addr} {o : Expr} {pl : Sem Bool} {apos : Pos} (C : Cal g X.prog X.w X.K X.mg X.base k f [] m) (hM : MonoF m) (hr : Room k X.A) (tk : Takes X W) (ho : PE X o (tC (.ref (g.cl c)))) (hR : ClX.CRead X.K (g.cl c) mc) (hC : CSta X.K (g.cl c) mc mn pp f) (ha : FA g X W (e :: es) a)
    (hst : starEach (e :: es) X.env = (false, eval e X.env) :: starEach es X.env := by rfl) (hpl : ((backTo pos (starEach (e :: es) X.env)).any (·.1) || (backToKw pos (keywordEach [] X.env)).any (·.1.isNone)) = false := by rfl)
    (ht : eval (.Call (.Attribute o mn apos) (e :: es) [] pos) X.env = (do
      let ov ← eval o X.env
      standAt apos.atName
      let (f, first) ← holding [ov] (getMethod ov mn pl)
      callWith pos f first (backTo pos (starEach (e :: es) X.env)) (backToKw pos (keywordEach [] X.env))) := by rfl) :
    FE g X W (.Call (.Attribute o mn apos) (e :: es) [] pos) (callE m a argsN) := by
  refine ⟨⟨fun pins s σ H Q I ⟨Z, F, st, ρ, E, N, q⟩ => ?_⟩, mono_callE hM ha.mono fun _ => mono_pure _⟩
  refine PySem.W.methodCall_KW (pl := pl) (thn (ho.run pins s σ H (fun v H' => v = .ref (g.cl c) ∧ H' = H) I ⟨rfl, rfl⟩) fun u s1 ⟨v, H1, I1, rx, ex, eh⟩ => ?_) ht
  subst ex
  subst eh
  obtain rfl : u = Value.ref (g.cl c) := rx
  obtain ⟨rest, hp⟩ := hC.rc
  refine PySem.W.method_cls I1.kIn hR.ga (PySem.W.cls_bind I1.kIn hR.rd hC.at_ (wpAny_call (PySem.W.sm_get (s := { s1 with toks := s1.toks + 1 }) I1.kIn hp (PySem.W.handed_on rfl ?_))))
  have I2 : Inv X pins σ H1 { s1 with heap := s1.heap, toks := s1.toks + 1 } := I1.kept fun b u e => e
  refine PySem.W.callWith_KW (first := []) (h₀ := X.base) I2.ok.mod.kin hC.kp (by rfl) (thn (ha.pa.run pos pins _ σ H1 _ I2 (callGo hM ha fk_nil N q)) fun us s2 ⟨vs, H2, I3, r2, q2⟩ => ?_) hpl hst
  refine thn ((fk_nil (g := g) (X := X) (W := W)).pk.run pos pins s2 σ H2 _ I3 q2) fun ws s3 ⟨zs, H3, I4, rz, q3⟩ => ⟨I4.kIn, ?_⟩
  exact run_cal C hr tk I4 r2 rz q3
end
/-! ** in a call -/
section
variable {prog : Program} {w : World} {A : Around} {E : Value → Shared → Prop} {s : Shared}
theorem key_noref {k : Key} {v : Value} (h : (mixKind prog w).is k v = true) : (∃ x t, v = .str x t ∧ k = .inr x) ∨ ∃ i t, v = .int i t ∧ k = .inl i := by
  rcases keyIs_shape (show keyIs k v = true from h) with ⟨i, t, rfl, rfl⟩ | ⟨x, t, rfl, rfl⟩
  · exact .inr ⟨i, t, rfl, rfl⟩
  · exact .inl ⟨x, t, rfl, rfl⟩
theorem merge_new {d o : Addr} {kvs : List (Key × Value)} {Q : Unit → Shared → Prop} (hdo : d ≠ o) (hoS : (o == sysModules) = false) (hd : s.heap.DictOf (mixKind prog w) d []) (ho : s.heap.DictOf (mixKind prog w) o kvs) (hsz : kvs.length ≤ sizeLine)
    (hQ : ∀ h', h'.DictOf (mixKind prog w) d kvs → Heap.SameBut d s.heap h' → Q () { s with heap := h' }) : wpAny (model prog w) A (mergeMapping d (.ref o) true) Q E s := by
  obtain ⟨od, esd, epd, hod, hcd, hdd, hkd, hpd, hnd⟩ := id hd
  obtain ⟨oo, eso, epo, hoo, hco, hdo', hko, hpo, hno⟩ := id ho
  have ht : s.TypeIs (.ref o) "dict" := ⟨oo, hoo, hco.1⟩
  unfold mergeMapping
  refine wpAny_bind (wpAny_isInstance ht isSubtype_dict_dict ?_)
  rw [if_pos rfl]
  refine wpAny_bind (wpAny_specialOf ht F.slot_dict_iter.lookup ?_)
  dsimp only
  have e1 : (some (Value.builtin "dict.__iter__") == some (Value.builtin "dict.__iter__")) = true := by decide +kernel
  rw [e1]
  refine wpAny_bind (wpAny_pure ?_)
  dsimp only
  rw [if_neg (by rw [hoS]; exact Bool.false_ne_true)]
  refine wpAny_bind (wpAny_dictEntries hod hdd ?_)
  have e2 : esd = #[] := by
    have := hpd.length
    simpa using this
  subst e2
  rw [if_pos (by rfl)]
  refine wpAny_bind (wpAny_dictEntries hoo hdo' ?_)
  refine wpAny_bind ?_
  rw [← Array.forIn_toList]
  refine wpAny_forIn_list _ (fun rest _ s' => s' = s ∧ ∀ e ∈ rest, e ∈ eso.toList) _ ?_ ?_ _ _ ⟨rfl, fun _ h => h⟩
  · rintro x rest b s' ⟨rfl, hr⟩
    obtain ⟨k, hk, _⟩ := hko x (Array.mem_toList_iff.mp (hr x List.mem_cons_self))
    have hrest : ∀ e ∈ rest, e ∈ eso.toList := fun e he => hr e (List.mem_cons_of_mem _ he)
    rcases key_noref hk with ⟨z, t, e, _⟩ | ⟨i, t, e, _⟩
    · rw [e]; exact wpAny_pure ⟨rfl, hrest⟩
    · rw [e]; exact wpAny_pure ⟨rfl, hrest⟩
  rintro b s' ⟨rfl, -⟩
  refine wpAny_bind (wpAny_dictEntries hoo hdo' ?_)
  refine wpAny_bind (wpAny_dictEpoch hoo hdo' ?_)
  refine wpAny_bind ?_
  have hlen : kvs.length = eso.size := by rw [← hpo.length]; simp
  refine wpAny_forIn_list _ (fun rest _ s2 => ∃ h' i, s2 = { s' with heap := h' } ∧ rest = List.range' i (eso.size - i) ∧ i ≤ eso.size ∧ h'.DictOf (mixKind prog w) d (kvs.take i) ∧ h'.get? o = some oo ∧ Heap.SameBut d s'.heap h')
    _ ?_ ?_ _ _ ⟨s'.heap, 0, rfl, by rw [List.range_eq_range', Nat.sub_zero], Nat.zero_le _, by simpa using hd, hoo, Heap.SameBut.refl _ _⟩
  · rintro x rest b s2 ⟨h', i, rfl, hr, hi, hd', hoo', hs'⟩
    have hlt : i < eso.size := by
      rcases Nat.lt_or_ge i eso.size with h | h
      · exact h
      · rw [Nat.sub_eq_zero_of_le h] at hr; simp at hr
    obtain ⟨rfl, hrest⟩ : x = i ∧ rest = List.range' (i + 1) (eso.size - (i + 1)) := by
      have e : eso.size - i = (eso.size - (i + 1)) + 1 := by omega
      rw [e, List.range'_succ] at hr
      injection hr with h1 h2
      exact ⟨h1, h2⟩
    refine wpAny_bind (wpAny_dictEntries hoo' hdo' ?_)
    rw [Array.getElem?_eq_getElem hlt]
    obtain ⟨kv, hkv⟩ : ∃ kv, kvs[x]? = some kv := ⟨kvs[x]'(by rw [hlen]; exact hlt), List.getElem?_eq_getElem _⟩
    obtain ⟨k, v⟩ := kv
    obtain ⟨hkey, hval⟩ := hpo.get? (e := eso[x]) (by simp [hlt]) hkv
    obtain ⟨k', hkey', hhash⟩ := hko eso[x] (Array.getElem_mem hlt)
    obtain rfl : k' = k := (mixKind prog w).inj _ _ _ hkey' hkey
    dsimp only
    rw [hhash, hval, if_pos rfl]
    have hnew : k' ∉ (kvs.take x).map (·.1) := by
      intro hm
      obtain ⟨kv, hkv2, rfl⟩ := List.mem_map.mp hm
      obtain ⟨j, hj, hjx⟩ := List.getElem_of_mem hkv2
      rw [List.getElem_take] at hjx
      rw [List.length_take] at hj
      have hxl := (List.getElem?_eq_some_iff.mp hkv)
      have h1 : (kvs.map (·.1))[j]'(by rw [List.length_map]; omega) = (kvs.map (·.1))[x]'(by rw [List.length_map]; exact hxl.1) := by
        rw [List.getElem_map, List.getElem_map, hjx, hxl.2]
      exact List.pairwise_iff_getElem.mp hno j x _ _ (by omega) h1
    obtain ⟨od', es', ep', hod', hcd', hdd', hkd', hpd', hnd'⟩ := id hd'
    have hidx : (es'.findIdx? fun e => (mixKind prog w).is k' e.key) = none := by
      have : (es'.toList.findIdx? fun e => (mixKind prog w).is k' e.key) = none := by
        rw [hpd'.findIdx, List.findIdx?_eq_none_iff]
        intro kv hkv3
        refine decide_eq_false fun e => hnew ?_
        rw [← e]; exact List.mem_map_of_mem hkv3
      simpa using this
    have hes : es'.size ≤ sizeLine := by
      have e1 := hpd'.length
      have e2 : es'.toList.length = es'.size := by simp
      rw [List.length_take] at e1
      omega
    refine wpAny_bind (wpAny_holding (wpAny_bind (wpAny_dictFind_of hkey hod' hdd' hkd' ?_)))
    rw [hidx, if_neg (by simp)]
    refine wpAny_bind (wpAny_dictFind_of hkey hod' hdd' hkd' ?_)
    rw [hidx]
    dsimp only
    have hds : (h'.update d (Obj.mapDictKeys fun x_1 => x_1.push ⟨(mixKind prog w).hash k', eso[x].key, v⟩)).DictOf (mixKind prog w) d (kvs.take (x + 1)) := by
      refine ⟨_, _, ep' + 1, Heap.get?_update_self _ hod' (Obj.isFreed_of_dict (Obj.data_mapDictKeys hdd' _)), hcd'.mapDictKeys _, Obj.data_mapDictKeys hdd' _, hkd'.push hkey _, ?_, ?_⟩
      · rw [List.take_succ, hkv]
        have := hpd'.append hkey ((mixKind prog w).hash k') v
        obtain ⟨l⟩ := es'
        simpa using this
      · exact (List.Nodup.sublist (List.Sublist.map _ (List.take_sublist _ _)) hno)
    have hsb : Heap.SameBut d h' (h'.update d (Obj.mapDictKeys fun x_1 => x_1.push ⟨(mixKind prog w).hash k', eso[x].key, v⟩)) := Heap.SameBut.update ..
    refine wpAny_updateDictKeys (hz := hes) hod' hdd' ?_
    have hoo'' := (hsb.2 o (Ne.symm hdo)).trans hoo'
    refine wpAny_bind (wpAny_dictEpoch hoo'' hdo' ?_)
    rw [if_neg (by simp)]
    exact wpAny_pure ⟨_, x + 1, rfl, hrest, hlt, hds, hoo'', hs'.trans hsb⟩
  · rintro b s2 ⟨h', i, rfl, hr, hi, hd', hoo', hs'⟩
    have hin : i = eso.size := by
      rcases Nat.lt_or_ge i eso.size with h | h
      · have e : eso.size - i = (eso.size - (i + 1)) + 1 := by omega
        rw [e, List.range'_succ] at hr
        cases hr
      · omega
    refine wpAny_pure (hQ _ ?_ hs')
    rw [List.take_of_length_le (by omega)] at hd'
    exact hd'

end
end DL

/-! ### def f(.., **d); o.m(**x), C(**x) -/
namespace DL
open PySem L2
section
variable {prog : Program} {w : World} {A : Around} {E : Value → Shared → Prop} {s : Shared}
theorem isStr_shape {v : Value} {k : Str} (h : v.isStr k = true) : ∃ t, v = .str k t := by
  cases v with
  | str x t =>
    have : (x == k) = true := h
    exact ⟨t, by rw [beq_iff_eq.mp this]⟩
  | _ => cases h
theorem nsSet_dict {d : Addr} {kvs : List (Key × Value)} {k : Str} {v : Value} {Q : Unit → Shared → Prop} (hd : s.heap.DictOf (mixKind prog w) d kvs) (hk : Sum.inr k ∉ kvs.map (·.1))
    (hQ : ∀ h', h'.DictOf (mixKind prog w) d (kvs ++ [(.inr k, v)]) → Heap.SameBut d s.heap h' → Q () { s with heap := h', toks := s.toks + 1 }) : wpAny (model prog w) A (nsSet d k v) Q E s := by
  obtain ⟨o, es, ep, ho, hc, hdt, hkd, hp, hn⟩ := id hd
  have hs : ∀ e ∈ es.toList, e.key.isStr k = false := fun e he => by
    obtain ⟨k', h1, h2⟩ := hkd e (Array.mem_toList_iff.mp he)
    rcases key_noref h1 with ⟨z, t, e1, e2⟩ | ⟨i, t, e1, e2⟩
    · rw [e1]
      show (z == k) = false
      refine beq_eq_false_iff_ne.mpr fun q => hk ?_
      subst q
      have hi := hp.findIdx (.inr z)
      cases hf : (es.toList.findIdx? fun e => (mixKind prog w).is (.inr z) e.key) with
      | none =>
        rw [List.findIdx?_eq_none_iff] at hf
        have := hf e he
        rw [e2] at h1
        rw [h1] at this
        cases this
      | some j =>
        rw [hf] at hi
        obtain ⟨kv, h3, h4⟩ : ∃ kv, kv ∈ kvs ∧ kv.1 = .inr z := by
          have := List.findIdx?_eq_some_iff_getElem.mp hi.symm
          obtain ⟨hj, h3, _⟩ := this
          exact ⟨kvs[j], List.getElem_mem hj, of_decide_eq_true h3⟩
        rw [← h4]; exact List.mem_map_of_mem h3
    · rw [e1]; rfl
  have hr : ∀ e ∈ es.toList, e.refKey = false := fun e he => by
    obtain ⟨k', h1, h2⟩ := hkd e (Array.mem_toList_iff.mp he)
    rcases key_noref h1 with ⟨z, t, e1, e2⟩ | ⟨i, t, e1, e2⟩ <;> (unfold DictEntry.refKey; rw [e1])
  have e1 : es.toList.any (·.key.isStr k) = false := by
    cases q : es.toList.any (·.key.isStr k) with
    | false => rfl
    | true => obtain ⟨e, he, z⟩ := List.any_eq_true.mp q; rw [hs e he] at z; cases z
  have e2 : es.toList.any (·.refKey) = false := by
    cases q : es.toList.any (·.refKey) with
    | false => rfl
    | true => obtain ⟨e, he, z⟩ := List.any_eq_true.mp q; rw [hr e he] at z; cases z
  obtain ⟨c, dd, dt, sl⟩ := o
  obtain ⟨hc1, hc2, hc3⟩ := hc
  simp only at hc1 hc2 hc3 hdt
  subst hc1 hc2 hc3 hdt
  have c : aRefKeyMayBeTheName k es = false := by
    rw [aRefKeyMayBeTheName_at, ← Array.any_toList, ← Array.any_toList]
    show (!es.toList.any (·.key.isStr k) && es.toList.any (·.refKey)) = false
    rw [e2, Bool.and_false]
  unfold nsSet
  refine wpAny_bind (wpAny_bind (wpAny_askSetting (wpAny_pure (wpAny_bind (wpAny_mkText (wpAny_bind (wpAny_loadPart ho ?_)))))))
  dsimp only
  rw [c]
  have ho2 : s.heap.get? d = some (PySem.W.dictOf es.toList ep) := ho
  have e : Obj.putName k (PyData.keyHash w.params k) (.str k s.toks) v (PySem.W.dictOf es.toList ep) = PySem.W.dictOf (es.toList ++ [⟨PyData.keyHash w.params k, .str k s.toks, v⟩]) (ep + 1) := by
    rw [PySem.W.putName_dict, PySem.W.putL_new hs]
    show PySem.W.dictOf _ (if es.toList.any (·.key.isStr k) then ep else ep + 1) = _
    rw [e1, if_neg Bool.false_ne_true]
  refine wpAny_updatePart (o := PySem.W.dictOf es.toList ep) ho2 (hQ _ ?_ (Heap.SameBut.update ..))
  show Heap.DictOf _ (s.heap.update d (Obj.putName k (PyData.keyHash w.params k) (.str k s.toks) v)) d _
  have hg := Heap.get?_update_self (Obj.putName k (PyData.keyHash w.params k) (.str k s.toks) v) ho2 (by rw [e]; rfl)
  rw [e] at hg
  refine ⟨_, (es.toList ++ [(⟨PyData.keyHash w.params k, .str k s.toks, v⟩ : DictEntry)]).toArray, ep + 1, hg, ⟨rfl, rfl, rfl⟩, rfl, ?_, ?_, ?_⟩
  · intro x hx
    rcases List.mem_append.mp (List.mem_toArray.mp hx) with h | h
    · exact hkd x (Array.mem_toList_iff.mp h)
    · rw [List.mem_singleton.mp h]
      exact ⟨Sum.inr k, keyIs_str k s.toks, rfl⟩
  · have hk0 : (mixKind prog w).is (Sum.inr k) (.str k s.toks) = true := keyIs_str k s.toks
    simpa using hp.append hk0 (PyData.keyHash w.params k) v
  · rw [List.map_append, List.nodup_append]
    refine ⟨hn, by simp, fun a ha b hb => ?_⟩
    simp only [List.map_cons, List.map_nil, List.mem_singleton] at hb
    subst hb
    exact fun e => hk (e ▸ ha)
abbrev inrP (ex : List (Str × Value)) : List (Key × Value) := ex.map fun x => (Sum.inr x.1, x.2)
theorem fill_dict {d : Addr} {Q : PUnit → Shared → Prop} : ∀ (ex : List (Str × Value)) (kvs : List (Key × Value)) (s : Shared), s.heap.DictOf (mixKind prog w) d kvs → (kvs.map (·.1) ++ (inrP ex).map (·.1)).Nodup →
    (∀ h' tk, h'.DictOf (mixKind prog w) d (kvs ++ inrP ex) → Heap.SameBut d s.heap h' → Q ⟨⟩ { s with heap := h', toks := tk }) →
    wpAny (model prog w) A (forIn ex PUnit.unit fun x _ => (nsSet d x.1 x.2 >>= fun _ => pure (ForInStep.yield PUnit.unit))) Q E s
  | [], kvs, s, hd, hn, hQ => by
    rw [List.forIn_nil]
    refine wpAny_pure (hQ s.heap s.toks ?_ (Heap.SameBut.refl _ _))
    simpa using hd
  | x :: r, kvs, s, hd, hn, hQ => by
    rw [List.forIn_cons]
    have hx : Sum.inr x.1 ∉ kvs.map (·.1) := fun hm => by
      have := (List.nodup_append.mp hn).2.2 _ hm (Sum.inr x.1) (by simp)
      exact this rfl
    refine wpAny_bind (wpAny_bind (nsSet_dict hd hx fun h' hd' hs => wpAny_pure ?_))
    refine fill_dict r (kvs ++ [(.inr x.1, x.2)]) { s with heap := h', toks := s.toks + 1 } hd' ?_ fun h'' tk hd'' hs'' => ?_
    · simpa using hn
    · refine hQ h'' tk ?_ (hs.trans hs'')
      simpa using hd''
theorem filter_zip : ∀ {ps : List Str} {us : List Value}, us.length = ps.length → ps.Nodup → (List.filterMap (fun n => Option.map (fun x => (n, x)) (List.lookup n (ps.zip us))) ps) = ps.zip us
  | [], [], _, _ => rfl
  | p :: ps, u :: us, hl, hn => by
    obtain ⟨h1, h2⟩ := List.nodup_cons.mp hn
    have ih := filter_zip (ps := ps) (us := us) (by simpa using hl) h2
    rw [List.zip_cons_cons, List.filterMap_cons]
    have e1 : List.lookup p ((p, u) :: ps.zip us) = some u := by simp
    rw [e1]
    simp only [Option.map_some]
    congr 1
    have go : ∀ l : List Str, (∀ n ∈ l, n ≠ p) → List.filterMap (fun n => Option.map (fun x => (n, x)) (List.lookup n ((p, u) :: ps.zip us))) l = List.filterMap (fun n => Option.map (fun x => (n, x)) (List.lookup n (ps.zip us))) l := by
      intro l
      induction l with
      | nil => intro _; rfl
      | cons n l ihl =>
        intro h
        have hne : (n == p) = false := beq_eq_false_iff_ne.mpr (h n List.mem_cons_self)
        rw [List.filterMap_cons, List.filterMap_cons, ihl fun m hm => h m (List.mem_cons_of_mem _ hm), List.lookup_cons, hne]
    rw [go ps fun n hm e => h1 (e ▸ hm)]
    exact ih
theorem inrP_nodup {ex : List (Str × Value)} (hn : (ex.map (·.1)).Nodup) : ((inrP ex).map (·.1)).Nodup := by
  have e : (inrP ex).map (·.1) = (ex.map (·.1)).map Sum.inr := by rw [List.map_map, List.map_map]; rfl
  rw [e]
  exact List.Pairwise.map _ (fun a b h e => h (Sum.inr.inj e)) hn
theorem bind_kwd {fd : FuncData} {ps : List Str} {a : Arg} {us : List Value} {ex : List (Str × Value)} {Q : List (Str × Value) → Shared → Prop} (h1 : fd.params.posonlyargs = []) (h2 : fd.params.args.map (·.arg) = ps) (h3 : fd.params.kwonlyargs = []) (h4 : fd.params.vararg = none) (h5 : fd.params.kwarg = some a) (h6 : fd.defaults = .none)
    (hl : us.length = ps.length) (hps : ps.Nodup) (hx : ∀ x ∈ ex, x.1 ∉ ps) (hn : (ex.map (·.1)).Nodup) (hz : ex.length ≤ sizeLine)
    (hQ : ∀ h' tk, h'.DictOf (mixKind prog w) s.heap.objs.size (inrP ex) → (∀ b o, s.heap.get? b = some o → h'.get? b = some o) → Q (ps.zip us ++ [(a.arg, .ref s.heap.objs.size)]) { s with heap := h', toks := tk }) :
    wpAny (model prog w) A (bindArgs fd ⟨us, ex⟩) Q E s := by
  unfold bindArgs
  simp only [h1, h2, h3, h4, h5, h6, List.map_nil, List.nil_append, List.append_nil]
  refine wpAny_bind (wpAny_forIn_list _ (fun rest b s' => s' = s ∧ b.1 = ps.zip us ∧ b.2 ++ rest = ex) _ ?_ ?_ _ _ ⟨rfl, rfl, rfl⟩)
  · rintro x rest ⟨b1, b2⟩ s' ⟨rfl, rfl, hb⟩
    have hm : x ∈ ex := by rw [← hb]; simp
    have e1 : (ps.contains x.1 || ([] : List Str).contains x.1) = false := by simp [hx x hm]
    rw [e1, if_neg Bool.false_ne_true, if_pos (by rfl)]
    refine wpAny_pure ⟨rfl, rfl, ?_⟩
    rw [← hb]; simp
  rintro ⟨b1, b2⟩ s' ⟨rfl, rfl, hb⟩
  rw [List.append_nil] at hb
  dsimp only at hb
  subst hb
  have e0 : (seqItems? Value.none : Sem (Option (Array Value))) = pure none := rfl
  rw [e0]
  refine wpAny_bind (wpAny_pure ?_)
  have e2 : (decide (us.length > ps.length) && (none : Option Arg).isNone) = false := by rw [decide_eq_false (by omega)]; rfl
  rw [e2, if_neg Bool.false_ne_true]
  have hfind : ∀ n ∈ ps, (List.lookup n (ps.zip us)).isSome = true := by
    intro n hm
    rw [Option.isSome_iff_ne_none]
    intro h0
    rw [List.lookup_eq_none_iff] at h0
    obtain ⟨j, hj, rfl⟩ := List.getElem_of_mem hm
    have := h0 (ps[j], us[j]'(by omega)) (by rw [List.mem_iff_getElem]; exact ⟨j, by simp; omega, by simp⟩)
    simp at this
  have e3 : (List.filter (fun n => (List.lookup n (ps.zip us)).isNone) ps) = [] := by
    rw [List.filter_eq_nil_iff]
    intro n hm h
    have := hfind n hm
    cases hh : List.lookup n (ps.zip us) with
    | none => rw [hh] at this; cases this
    | some v => rw [hh] at h; cases h
  have e4 : (((none : Option (Array Value)).getD #[]).toList) = [] := rfl
  simp only [e4, List.drop_nil, List.length_nil, Nat.sub_zero, List.take_length, e3, List.isEmpty_nil, Bool.not_true, Bool.false_eq_true, if_false, List.zip_nil_right, List.forIn_nil, pure_bind]
  rw [if_neg (by omega)]
  refine wpAny_bind (wpAny_alloc ?_)
  have e5 : (List.filterMap (fun n => Option.map (fun x => (n, x)) (List.lookup n (ps.zip us))) ps) = ps.zip us := filter_zip hl hps
  rw [e5]
  refine wpAny_bind (fill_dict b2 [] _ (Heap.DictOf.new _) (by rw [List.map_nil, List.nil_append]; exact inrP_nodup hn) fun h' tk hd hs => wpAny_pure ?_)
  refine hQ h' tk (by simpa using hd) fun b o h => ?_
  have hne : b ≠ s'.heap.objs.size := Nat.ne_of_lt (Heap.lt_size h)
  exact (hs.2 b hne).trans (Heap.get?_push_of_some _ h)
end
section
variable {P : Program} {w : World} {K : PySem.W.Frag} {mg : Str → Option Value} {base : Heap} {A : Around} {outer : List PySem.Env} {s : Shared} {H : Hp} {g : G} {Z F : Hp} {W : WX}
theorem env0_ext {h' : Heap} {tk : Tok} {u : HO} (e0 : Env0 P w K mg base A outer s H) (kp : ∀ b x, s.heap.get? b = some x → h'.get? b = some x) (hd : ∃ o, h'.get? s.heap.objs.size = some o) (new : ObjOk P w (upd H s.heap.objs.size u) h' s.heap.objs.size u) :
    Env0 P w K mg base A outer { s with heap := h', toks := tk } (upd H s.heap.objs.size u) := by
  refine ⟨e0.frames, e0.mod, fun b x e => ⟨kp b x (e0.bs b x e).1, ?_⟩, ?_, Heap.FunFrames.of_keeps (fun b x e _ => ⟨x, kp b x e, rfl⟩) e0.funs, fun b hb => ?_, e0.hok.laid kp (Nat.le_refl _) new, e0.bare⟩
  · rw [upd_ne (Nat.ne_of_lt (Heap.lt_size (e0.bs b x e).1))]
    exact (e0.bs b x e).2
  · obtain ⟨o, ho⟩ := hd
    exact Nat.le_trans e0.bsz (Nat.le_of_lt (Heap.lt_size ho))
  · obtain ⟨_, x, hx, _⟩ := e0.funs.mem hb
    rw [upd_ne (Nat.ne_of_lt (Heap.lt_size hx))]
    exact e0.frf b hb
theorem kv_zip : ∀ {ks : List Str} {zs : List V} {ws : List Value}, Vals zs ws → KV ((ks.map Sum.inr).zip zs : List (Key × V)) (inrP (ks.zip ws))
  | [], _, _, _ => .nil
  | _ :: _, _, _, .nil => .nil
  | k :: ks, _, _, .cons r t => .cons ⟨rfl, r⟩ (kv_zip t)
/-- keywords into a new dict, the last parameter -/
def kdF (ps ks : List Str) (m : List D → M Ex D) : Fn := fun ds es => if ds.length = ps.length ∧ es.length = ks.length ∧ ks.length ≤ sizeLine ∧ ks.Nodup ∧ (∀ x ∈ ks, x ∉ ps) then bindM (newM (.dic ((ks.map Sum.inr).zip es))) fun d => m (ds ++ [d]) else failM
theorem mono_kdF {ps ks : List Str} {m : List D → M Ex D} (h : ∀ ds, Mono (m ds)) : MonoF (kdF ps ks m) := fun ds es => mono_ite (mono_bind mono_new fun _ => h _) mono_fail
theorem fn_okK {x qual : Str} {pa : Arg} {params : Arguments} {body : List Stmt} {scope : Scope} {f : Addr} {fd : FuncData} {N ps : List Str} {k n : Nat} {b : Env → MS} [MB b]
    (Fu : FunD K x qual params body scope [] [] f fd) (Sc : FnScope N (ps ++ [pa.arg]) scope) (hn : N.length = n)
    (p1 : params.posonlyargs = []) (p2 : params.args.map (·.arg) = ps) (p3 : params.kwonlyargs = []) (p4 : params.vararg = none) (p5 : params.kwarg = some pa) (hps : ps.Nodup)
    (hb : ∀ (cdv : Value) (A : Around) (outer : List PySem.Env) (s : Shared) (H : Hp) (E : XK), Room k (A.deeper (PyProof.Rows.envOfC qual scope s.heap.objs.size f cdv)) → Takes (cxOf (L2.CX P w) P w K mg base N qual scope f cdv A outer s H E) (fun u d _ H => E u d H) →
      FB g (cxOf (L2.CX P w) P w K mg base N qual scope f cdv A outer s H E) (fun u d _ H => E u d H) body b) (ks : List Str) : Cal g P w K mg base (k + 1) f ks (kdF ps ks (defM n b)) := by
  obtain ⟨oc, od, dV, kV, doc, pm, an, cdv, ct, osl, rfl, lk, hcd, hd1, hd2⟩ := Fu.ex
  have hdV : dV = .none := by
    rcases hd1 with ⟨_, h⟩ | ⟨h, _⟩
    · exact h
    · exact (h rfl).elim
  intro A outer s H us ws vs zs Q E room env r rz ⟨Z, F, st, ds, es, sim, h1, h2, q⟩
  replace q : (if ds.length = ps.length ∧ es.length = ks.length ∧ ks.length ≤ sizeLine ∧ ks.Nodup ∧ (∀ x ∈ ks, x ∉ ps) then bindM (newM (.dic ((ks.map Sum.inr).zip es))) fun d => defM n b (ds ++ [d]) else failM) st (Res g (RelD g) Z F Q) (excD g Z F E) := q
  by_cases hj : ds.length = ps.length ∧ es.length = ks.length ∧ ks.length ≤ sizeLine ∧ ks.Nodup ∧ (∀ x ∈ ks, x ∉ ps)
  · rw [if_pos hj] at q
    obtain ⟨j1, j2, j3, j4, j5⟩ := hj
    have l1 : us.length = ps.length := by rw [← r.length, h1.len]; exact j1
    have l2 : ws.length = ks.length := by rw [← rz.length, h2.len]; exact j2
    have l3 : zs.length = ks.length := by rw [h2.len]; exact j2
    have hfr : H s.heap.objs.size = Option.none := env.hok.fresh (Nat.le_refl _)
    refine StX.run_bnd lk hcd Sc room env (G := fun xs H2 => ∃ d, H d = Option.none ∧ xs = vs ++ [V.ref d] ∧ H2 = upd H d (.dK ((ks.map Sum.inr).zip zs))) (fun A' Ex Q' h => ?_) fun s2 H2 xs ⟨d, hd, ex, eH⟩ hr' => ?_
    · have ek : (ks.zip ws).map (·.1) = ks := by rw [List.map_fst_zip]; omega
      refine bind_kwd (ps := ps) (a := pa) p1 p2 p3 p4 p5 hdV l1 hps (fun x hx => j5 _ (List.of_mem_zip hx).1) (by rw [ek]; exact j4) (by rw [List.length_zip]; omega) fun h' tk hd kp => ?_
      have hfree : (s.heap.objs.size == sysModules) = false := beq_eq_false_iff_ne.mpr (Ne.symm (Nat.ne_of_lt (StX.env0_big env)))
      have new : ObjOk P w (upd H s.heap.objs.size (.dK ((ks.map Sum.inr).zip zs))) h' s.heap.objs.size (.dK ((ks.map Sum.inr).zip zs)) := ⟨by rw [List.length_zip, List.length_map]; omega, hfree, _, kv_zip rz, hd⟩
      have e1 := env0_ext (tk := tk) env kp (let ⟨o, _, _, ho, _⟩ := hd; ⟨o, ho⟩) new
      have un : Un (frs outer) [] H (upd H s.heap.objs.size (.dK ((ks.map Sum.inr).zip zs))) s.heap h' := Un.laid kp (Nat.le_refl _) hfr
      have z := h { s with heap := h', toks := tk } _ (vs ++ [V.ref s.heap.objs.size]) (us ++ [Value.ref s.heap.objs.size]) e1 un rfl (fun e s' => StX.cxUp outer s H _ _ E e s' un kp rfl) (r.append (.cons rfl .nil)) (by rw [List.length_append, List.length_append, r.length, l1] <;> rfl) ⟨_, hfr, rfl, rfl⟩
      rw [List.zip_append l1.symm] at z
      exact z
    · subst ex eH
      obtain ⟨nF, nS⟩ := sim.free hd
      have q1 := q d nS
      have hkeys : ((ks.map Sum.inr).zip zs : List (Key × V)).map (·.1) = ((ks.map Sum.inr).zip es : List (Key × D)).map (·.1) := by
        rw [List.map_fst_zip (by rw [List.length_map]; omega), List.map_fst_zip (by rw [List.length_map]; omega)]
      have hvals : RelDs g F (((ks.map Sum.inr).zip es : List (Key × D)).map (·.2)) (((ks.map Sum.inr).zip zs : List (Key × V)).map (·.2)) := by
        rw [List.map_snd_zip (by rw [List.length_map]; omega), List.map_snd_zip (by rw [List.length_map]; omega)]
        exact h2
      have sim2 := sim.put (ob := .dic ((ks.map Sum.inr).zip es)) nF (.inl hd) ⟨(ks.map Sum.inr).zip zs, upd_same, hkeys, hvals⟩
      refine ⟨_, (hb cdv A outer s2 _ E hr' (takes_of rfl rfl rfl rfl)).ps, ?_⟩
      have rel : RelDs g F (ds ++ [.ref d]) (vs ++ [V.ref d]) := h1.append (.one relD_ref)
      refine ⟨Z, F, _, _, fun x _ s => ∀ u d F' H', Same F F' → Sim g Z s F' H' → RelEx g F' u d x → E u d H', ⟨sim2, renv_start rel n hn, fun x ρ st' F' H' u d σ e sim' _ rx h => h u d F' H' e sim' rx⟩, ?_⟩
      refine (hb cdv A outer s2 (upd H d (.dK ((ks.map Sum.inr).zip zs))) E hr' (takes_of rfl rfl rfl rfl)).mono _ _ _ _ _ _ (fun fl s' h => ?_) (fun _ _ h => h) q1
      cases fl with
      | nx ρ' => exact fun σ' F' H' e sim' _ => h .non F' H' e sim' relD_non
      | rt d => exact h
      | bk _ => exact h.elim
      | ct _ => exact h.elim
  · rw [if_neg hj] at q; exact q.elim
end
end DL

/-! ### o.m(**x), C(**x) -/
namespace DL
open PySem L2
section
variable {prog : Program} {w : World} {A : Around} {E : Value → Shared → Prop} {s : Shared} {M : Model}
theorem ksd_call {f : Value} {first : List Value} {pos : Pos} {Q : Value → Shared → Prop} {P : Heap → Prop} {args : List (Bool × Sem Value)} {kws : List (Option Str × Sem Value)} (hst : (args.any (·.1) || kws.any (·.1.isNone)) = true)
    (hk : ∀ h, P h → ∃ k, (k = Keeper.frame ∨ k = Keeper.machine ∨ k = Keeper.boundFrame) ∧ PySem.W.Looks M h (keeperOf f) k)
    (h : wpAny M A (evalArgs f true args kws) (fun a s₁ => P s₁.heap ∧ wpAny M A (call f (first ++ a.pos) a.kw) Q E s₁) E s) : wpAny M A (callWith pos f first args kws) Q E s := by
  unfold callWith
  refine wpAny_bind (wpAny_holding (wpAny_mono h (fun a s₁ h₁ => wpAny_bind (wpAny_standAt ?_)) fun _ _ x => x))
  obtain ⟨k, hk', L⟩ := hk _ h₁.1
  simp only [hst]
  refine wpAny_bind (L.here ?_)
  have tail : ∀ {t : Sem Value}, wpAny M A t Q E s₁ → wpAny M A (t >>= fun r => holding [r] point >>= fun _ => pure r) Q E s₁ :=
    fun ht => wpAny_bind (wpAny_mono ht (fun r s₂ hr => wpAny_bind (wpAny_holding (wpAny_point (wpAny_pure hr)))) fun _ _ x => x)
  have marked (mk : Value) : wpAny M A (callMarked mk f (first ++ a.pos) a.kw) Q E s₁ := by unfold callMarked; exact Calls.wpAny_keep h₁.2
  rcases hk' with rfl | rfl | rfl <;> dsimp only <;> first | exact tail (marked _) | exact tail (wpAny_operating h₁.2)
theorem kk_eval {f : Value} {x : Sem Value} {Q : Args → Shared → Prop} (h : wpAny M A (mergedKeywords f [(none, x)]) (fun d s1 => wpAny M A (keywordsIn f d) (fun kw s2 => Q ⟨[], kw⟩ s2) E s1) E s) : wpAny M A (evalArgs f true [] [(none, x)]) Q E s := by
  unfold evalArgs
  refine wpAny_bind (m := spliced []) (wpAny_pure (wpAny_bind (wpAny_pure ?_)))
  refine wpAny_holding ?_
  refine wpAny_bind (wpAny_mono h (fun d s1 h1 => ?_) fun _ _ z => z)
  refine wpAny_bind (wpAny_pure ?_)
  refine wpAny_bind (wpAny_holding (wpAny_mono h1 (fun kw s2 h2 => wpAny_pure h2) fun _ _ z => z))
theorem kk_merge {f : Value} {x : Sem Value} {Q : Addr → Shared → Prop}
    (h : wpAny M A x (fun m s1 => wpAny M A (mergeMapping s.heap.objs.size m true) (fun _ s2 => Q s.heap.objs.size s2) (fun _ _ => False) s1) E { s with heap := s.heap.push { cls := .type "dict", data := .dict #[] } }) : wpAny M A (mergedKeywords f [(none, x)]) Q E s := by
  unfold mergedKeywords
  refine wpAny_bind (wpAny_alloc ?_)
  refine wpAny_bind (wpAny_holding ?_)
  refine wpAny_bind (wpAny_forIn_list _ (fun rest b s' => (rest = [(none, x)] ∧ b = [] ∧ s' = { s with heap := s.heap.push { cls := .type "dict", data := .dict #[] } }) ∨ (rest = [] ∧ b = [] ∧ Q s.heap.objs.size s')) _ ?_ ?_ _ _ (.inl ⟨rfl, rfl, rfl⟩))
  · rintro y rest b s' (⟨hr, rfl, rfl⟩ | ⟨hr, _⟩)
    · injection hr with h1 h2
      subst h1 h2
      refine wpAny_bind (wpAny_pure ?_)
      refine wpAny_bind (wpAny_mono h (fun m s1 h1 => ?_) fun _ _ z => z)
      refine wpAny_bind (wpAny_onRaise (wpAny_holding (wpAny_tryCatch (wpAny_onRaise (wpAny_mono h1 (fun u s2 h2 => wpAny_pure (.inr ⟨rfl, rfl, h2⟩)) fun _ _ z => z.elim)))))
    · cases hr
  · rintro b s' (⟨hr, _⟩ | ⟨_, rfl, h2⟩)
    · cases hr
    · exact wpAny_pure (wpAny_pure h2)
theorem keywords_of {f : Value} {d : Addr} {ex : List (Str × Value)} {Q : List (Str × Value) → Shared → Prop} (hd : s.heap.DictOf (mixKind prog w) d (inrP ex)) (h : Q ex s) : wpAny (model prog w) A (keywordsIn f d) Q E s := by
  obtain ⟨o, es, ep, ho, hc, hdt, hk, hp, hn⟩ := hd
  unfold keywordsIn
  refine wpAny_bind (wpAny_dictEntries ho hdt ?_)
  refine wpAny_bind ?_
  rw [← Array.forIn_toList]
  refine wpAny_forIn_list _ (fun rest b s' => s' = s ∧ ∃ ex2, b ++ ex2 = ex ∧ Pairs (mixKind prog w) rest (inrP ex2)) _ ?_ ?_ _ _ ⟨rfl, ex, rfl, hp⟩
  · rintro e rest b s' ⟨rfl, ex2, hb, hp2⟩
    cases ex2 with
    | nil => cases hp2
    | cons x r =>
      cases hp2 with
      | cons h1 h2 h3 =>
        obtain ⟨t, ht⟩ := Value.isStrOf_shape (x := x.1) (v := e.key) h1
        rw [ht]
        dsimp only
        refine wpAny_pure ⟨rfl, r, ?_, h3⟩
        rw [h2, ← hb]; simp
  · rintro b s' ⟨rfl, ex2, hb, hp2⟩
    cases ex2 with
    | nil => rw [List.append_nil] at hb; rw [hb]; exact wpAny_pure h
    | cons x r => cases hp2
end
section
variable {g : G} {Z F F' H H' : Hp} {W : WX} {σ : St} {ρ : Env} {st : S} {X : Cx} {e e1 e2 : Expr} {pos p kp : Pos} {pins : List (Addr × Obj)} {s : Shared}
theorem kv_zip_inv : ∀ {ks : List Str} {zs : List V} {vs : List (Key × Value)}, ks.length = zs.length → KV ((ks.map Sum.inr).zip zs : List (Key × V)) vs → ∃ ws, Vals zs ws ∧ vs = inrP (ks.zip ws)
  | [], [], _, _, .nil => ⟨[], .nil, rfl⟩
  | k :: ks, z :: zs, v :: vs, hl, .cons r t => by
    obtain ⟨ws, h1, h2⟩ := kv_zip_inv (ks := ks) (zs := zs) (by simpa using hl) t
    obtain ⟨r1, r2⟩ := r
    refine ⟨v.2 :: ws, .cons r2 h1, ?_⟩
    rw [h2]
    obtain ⟨v1, v2⟩ := v
    dsimp only at r1
    rw [← r1]; rfl
theorem kkRun {x : Str} {i : Nat} {o : Addr} {ks : List Str} {zs : List V} {f : Value} {Q : Args → Shared → Prop} (I : Inv X pins σ H s) (hN : X.N[i]? = some x) (hv : Vis X.env.scope x) (hi : σ[i]? = some (some (.ref o))) (ho : H o = some (.dK ((ks.map Sum.inr).zip zs))) (hl : ks.length = zs.length)
    (hdb : (x == ("__debug__" : Str)) = false) (hcd : (x == ("__classdict__" : Str)) = false)
    (hQ : ∀ s' d ws, H d = none → Inv X pins σ (upd H d (.dK ((ks.map Sum.inr).zip zs))) s' → Vals zs ws → Q ⟨[], ks.zip ws⟩ s') :
    wpAny (model X.prog X.w) X.A (evalArgs f true [] [(none, do let v ← eval (.Name x p) X.env; standAt pos; pure v)]) Q X.xe s := by
  have hf : H s.heap.objs.size = none := I.hok.fresh (Nat.le_refl _)
  have hbig : sysModules < s.heap.objs.size := StX.env0_big I.env0
  have I1 : Inv X pins σ (upd H s.heap.objs.size (.dK [])) { s with heap := s.heap.push { cls := .type "dict", data := .dict #[] }, toks := s.toks } := I.laid (fun b u e => Heap.get?_push_of_some _ e) (Nat.le_refl _) (dk_empty _ hbig)
  refine kk_eval (kk_merge (wpAny_bind ?_))
  have hod : o ≠ s.heap.objs.size := fun e => by rw [e, hf] at ho; cases ho
  refine thn ((pe_var (pos := p) hN hv hdb hcd).run pins _ σ _ (fun v H' => v = .ref o ∧ H' = upd H s.heap.objs.size (.dK [])) I1 ⟨_, hi, rfl, rfl⟩) fun u s2 ⟨v, H2, I2, rv, ev, eH⟩ => ?_
  subst ev
  subst eH
  cases (show u = Value.ref o from rv)
  refine wpAny_bind (wpAny_standAt (wpAny_pure ?_))
  obtain ⟨z1, z2, vs, z3, z4⟩ := I2.hok s.heap.objs.size _ upd_same
  have hv0 : vs = [] := by cases z3; rfl
  subst hv0
  obtain ⟨y1, y2, us, y3, y4⟩ := I2.hok o _ ((upd_ne hod).trans ho)
  obtain ⟨ws, hw, rfl⟩ := kv_zip_inv hl y3
  have hws : ks.length = ws.length := by rw [hl]; exact hw.length
  refine merge_new (Ne.symm hod) y2 z4 y4 (by rw [List.length_map, List.length_zip]; rw [List.length_zip, List.length_map] at y1; omega) fun h' hd' hs' => ?_
  have I3 : Inv X pins σ (upd (upd H s.heap.objs.size (.dK [])) s.heap.objs.size (.dK ((ks.map Sum.inr).zip zs))) { s2 with heap := h', toks := s2.toks } :=
    I2.write (x := s.heap.objs.size) (e := s.heap.objs.size) (by rw [upd_same]; trivial) (.inl rfl) (fun b u hb h => (hs'.2 b hb).trans h) (let ⟨o, _, _, ho, _⟩ := hd'; ⟨o, ho⟩) ⟨y1, z2, _, kv_zip hw, hd'⟩
  rw [upd_upd] at I3
  exact keywords_of hd' (hQ _ _ ws hf I3 hw)
/-- names and values of a dict whose keys are texts -/
def strsK : List Key → Option (List Str)
  | [] => some []
  | .inr k :: ks => (strsK ks).map fun r => k :: r
  | .inl _ :: _ => none
theorem strsK_inv : ∀ {ks : List Key} {ns : List Str}, strsK ks = some ns → ks = ns.map Sum.inr
  | [], _, h => by cases h; rfl
  | .inr k :: ks, ns, h => by
    obtain ⟨r, h1, rfl⟩ := Option.map_eq_some_iff.mp h
    rw [strsK_inv h1]; rfl
  | .inl _ :: _, _, h => by cases h
theorem strsK_of (ns : List Str) : strsK (ns.map Sum.inr) = some ns := by
  induction ns with
  | nil => rfl
  | cons n ns ih => show (strsK (ns.map Sum.inr)).map _ = _; rw [ih]; rfl
def kkO (t : D) (st : S) : Option (List Str × List D) := (dicOf st t).bind fun kvs => (strsK (kvs.map (·.1))).map fun ks => (ks, kvs.map (·.2))
theorem Sim.kk {t : D} {v : V} {q : List Str × List D} (s : Sim g Z st F H) (r : RelD g F t v) (h : kkO t st = some q) : ∃ o zs, v = .ref o ∧ H o = some (.dK ((q.1.map Sum.inr).zip zs)) ∧ q.1.length = zs.length ∧ RelDs g F q.2 zs := by
  obtain ⟨kds, h1, h2⟩ := Option.bind_eq_some_iff.mp h
  obtain ⟨ks, h3, rfl⟩ := Option.map_eq_some_iff.mp h2
  obtain ⟨a, kvs, rfl, h4, h5, h6⟩ := s.dicOf r h1
  have e := strsK_inv h3
  refine ⟨a, kvs.map (·.2), rfl, ?_, ?_, h6⟩
  · have : kvs = (ks.map Sum.inr).zip (kvs.map (·.2)) := by
      rw [← e, ← h5]
      clear h4 h5 h6
      induction kvs with
      | nil => rfl
      | cons k kvs ih => rw [List.map_cons, List.map_cons, List.zip_cons_cons, ← ih]
    rw [← this]; exact h4
  · have := congrArg List.length e
    rw [List.length_map, List.length_map] at this
    have h7 := congrArg List.length h5
    rw [List.length_map, List.length_map] at h7
    rw [List.length_map]
    show ks.length = kvs.length
    omega
variable {k : Nat} {f : Addr} {m : List Str → Fn} {x y : Str}
def makeKK (c : Str) (m : List Str → Fn) (fin : D → M Ex D) (i : Nat) : Env → M Ex D := fun ρ => bindM (var i ρ) fun t => bindM (seeM fun st => kkO t st) fun q => mkM c (m q.1) fin [] q.2
def methKK (c mn : Str) (m : List Str → Fn) (o : Env → M Ex D) (i : Nat) : Env → M Ex D := fun ρ => bindM (o ρ) fun x => bindM (seeM (insOk c mn x)) fun _ => bindM (var i ρ) fun t => bindM (seeM fun st => kkO t st) fun q => m q.1 [x] q.2
theorem fe_makeKK {c : Str} {i : Nat} {fin : D → M Ex D} (hf : Fin g fin) (Mk : Mk X.K (g.cl c) f) (C : ∀ ks, Cal g X.prog X.w X.K X.mg X.base k f ks (m ks)) (hM : ∀ ks, MonoF (m ks)) (hr : Room (k + 1) X.A) (tk : Takes X W) (hg : Gl X x) (hm : X.mg x = some (.ref (g.cl c))) (hN : X.N[i]? = some y) (hv : Vis X.env.scope y)
    {p2 : Pos} (hb : backToKw pos (keywordEach [⟨none, .Name y p2, kp⟩] X.env) = [(none, do let v ← eval (.Name y p2) X.env; standAt pos; pure v)] := by rfl) (hdb : (x == ("__debug__" : Str)) = false := by decide) (hdb2 : (y == ("__debug__" : Str)) = false := by decide) (hcd : (y == ("__classdict__" : Str)) = false := by decide) :
    FE g X W (.Call (.Name x p) [] [⟨none, .Name y p2, kp⟩] pos) (makeKK c m fin i) := by
  have hM2 : ∀ ks, MonoF (mkM c (m ks) fin) := fun ks => mono_mkM (c := c) (hM ks) hf.mono
  refine ⟨⟨fun pins s σ H Q I ⟨Z, F, st, ρ, E, N, q⟩ => ?_⟩, fun ρ => mono_bind (mono_var i ρ) fun _ => mono_bind (mono_see _) fun _ => hM2 _ _ _⟩
  refine wpAny_Call_Name_kw (ld_glob I hg hm ?_ hdb)
  obtain ⟨t, ht, q⟩ := varO_inv q
  obtain ⟨v, e', rv⟩ := N.env.2 i t ht
  obtain ⟨kk, hk, q⟩ := q
  obtain ⟨o, zs, rfl, h1, h2, h3⟩ := N.sim.kk rv hk
  rw [hb]
  refine ksd_call (P := fun h => X.K.In h) (by rfl) (PySem.W.keeps_K Mk.kp) (kkRun I hN hv e' h1 h2 hdb2 hcd fun s' d ws hd I2 rz => ⟨I2.kIn, ?_⟩)
  exact run_mk (vs := []) (us := []) Mk (C kk.1) hr tk I2 .nil rz fun y dx n1 n2 n3 => mkGo (hM kk.1) hf ⟨Z, F, st, [], kk.2, N.sim.junk hd, .nil, h3, hM2 kk.1 _ _ _ _ _ _ _ (fun _ _ z => z) (fun _ _ z => N.exc z) q⟩ n1 n2 n3
theorem kwcall_of {M : Model} {A : Around} {E : Value → Shared → Prop} {s : Shared} {env : PySem.Env} {o : Expr} {m : Str} {apos pos : Pos} {kws : List Keyword} {x : Sem Value} {Q : Value → Shared → Prop} (hbase : attributeBase o m env (eval o env) = eval o env)
    (hke : backToKw pos (keywordEach kws env) = [(none, x)])
    (h : wpAny M A (eval o env) (fun ov s₁ => wpAny M A (getAttr ov m true) (fun f s₂ => wpAny M A (callWith pos f [] [] [(none, x)]) Q E s₂) E s₁) E s) :
    wpAny M A (eval (.Call (.Attribute o m apos) [] kws pos) env) Q E s := by
  have hst : backTo pos (starEach [] env) = [] := rfl
  have hform : ∀ n, methodCallForm n [] [(none, x)] = false := fun _ => rfl
  have hpos : methodCallPos false o env apos pos = pure pos := rfl
  have hcal : ∀ ov, calleeOf false o env ov m = (getAttr ov m true >>= fun v => pure (v, [])) := fun _ => rfl
  rw [arm_eval_Call, hbase, hst, hke]
  refine wpAny_bind (wpAny_mono h (fun ov s₁ h₁ => ?_) fun _ _ x => x)
  refine wpAny_bind (wpAny_standAt ?_)
  unfold methodCall
  rw [hform, hpos, hcal]
  refine wpAny_bind (wpAny_holding (wpAny_bind (wpAny_mono h₁ (fun f s₂ h₂ => wpAny_pure ?_) fun _ _ x => x)))
  exact wpAny_bind (wpAny_pure h₂)
theorem fe_methKK {c mn : Str} {i : Nat} {o : Expr} {mo : Env → M Ex D} {apos : Pos} (C : ∀ ks, Cal g X.prog X.w X.K X.mg X.base k f ks (m ks)) (hM : ∀ ks, MonoF (m ks)) (hr : Room k X.A) (tk : Takes X W) (hK : X.K = g.K) (hc : Cls g.K (g.cl c)) (hm : L2.BMeth g.K (g.cl c) mn f)
    (ho : FE g X W o mo) (hN : X.N[i]? = some y) (hv : Vis X.env.scope y)
    {p2 : Pos} (hb : backToKw pos (keywordEach [⟨none, .Name y p2, kp⟩] X.env) = [(none, do let v ← eval (.Name y p2) X.env; standAt pos; pure v)] := by rfl) (hdb2 : (y == ("__debug__" : Str)) = false := by decide) (hcd : (y == ("__classdict__" : Str)) = false := by decide)
    (hbase : attributeBase o mn X.env (eval o X.env) = eval o X.env := by rfl) :
    FE g X W (.Call (.Attribute o mn apos) [] [⟨none, .Name y p2, kp⟩] pos) (methKK c mn m mo i) := by
  have mo2 : ∀ (ρ : Env) (x : D), Mono (bindM (var i ρ) fun t => bindM (seeM fun st => kkO t st) fun q => m q.1 [x] q.2) := fun ρ x => mono_bind (mono_var i ρ) fun _ => mono_bind (mono_see _) fun _ => hM _ _ _
  refine ⟨⟨fun pins s σ H Q I ⟨Z, F, st, ρ, E, N, q⟩ => ?_⟩, fun ρ => mono_bind (ho.mono ρ) fun x => mono_bind (mono_see _) fun _ => mo2 ρ x⟩
  rw [← hK] at hc hm
  refine kwcall_of hbase hb (thn (ho.pe.run pins s σ H _ I (tX.go (R1 := RelD g) (P := fun v H1 => ∃ F st x, Now g W Z σ H1 F ρ st E ∧ RelD g F x v ∧ DL.insOk c mn x st = some () ∧ (bindM (var i ρ) fun t => bindM (seeM fun st => kkO t st) fun q => m q.1 [x] q.2) st (Res g (RelD g) Z F Q) (fun x s => E x ρ s)) N (ho.mono ρ) (fun x => mono_bind (mono_see _) fun _ => mo2 ρ x) q fun x v F st H1 e1 N r q => ?_)) fun u s1 ⟨v, H1, I1, rv, F, st, x, N, r, hi, q⟩ => ?_)
  · obtain ⟨_, hi, q⟩ := q
    exact ⟨F, st, x, N, r, hi, q⟩
  · obtain ⟨b, dx, fs, rfl, hbb, hl⟩ := N.sim.insOk r hi
    obtain rfl : u = Value.ref b := rv
    obtain ⟨t, ht2, q⟩ := varO_inv q
    obtain ⟨v, e', rv⟩ := N.env.2 i t ht2
    obtain ⟨kk, hk, q⟩ := q
    obtain ⟨o, zs, rfl, h1, h2, h3⟩ := N.sim.kk rv hk
    refine L2.getbound_ok I1 hbb hc hm hl fun q1 s2 hq1 I2 => ?_
    have hoq : o ≠ q1 := fun e => by rw [e, hq1] at h1; cases h1
    refine ksd_call (first := []) (P := PySem.W.MethP X.K q1 f (.ref b)) (by rfl) (PySem.W.keeps_M hm.fi) (kkRun I2 hN hv e' ((upd_ne hoq).trans h1) h2 hdb2 hcd fun s' d ws hd I3 rz => ?_)
    have hqd : q1 ≠ d := fun e => by rw [← e, upd_same] at hd; cases hd
    have hmet := L2.met_P I3 ((upd_ne hqd).trans upd_same)
    exact ⟨hmet, wpAny_call (PySem.W.method_call hmet.1 (code_cal (us := [.ref b]) (vs := [.ref b]) (C kk.1) hr tk I3 (.cons rfl .nil) rz ⟨Z, F, st, [x], kk.2, (N.sim.junk hq1).junk hd, .one r, h3, hM kk.1 _ _ _ _ _ _ _ (fun _ _ z => z) (fun _ _ z => N.exc z) q⟩))⟩
end
section
variable {ρ : Env} {s : S} {Q : D → S → Prop} {E : Ex → S → Prop} {c mn : Str} {m : List Str → Fn} {fin : D → M Ex D} {i : Nat} {o : Env → M Ex D}
/-- where the names that a dict brings are known -/
def onlyK (ns : List Str) (m : Fn) : List Str → Fn := fun ks => if ks = ns then m else fun _ _ => failM
instance {ns : List Str} {m : Fn} [MF m] {ks : List Str} : MF (onlyK ns m ks) := ⟨fun ds es => by
  unfold onlyK
  split
  · exact MF.mono ds es
  · exact mono_fail⟩
theorem cal_fail {g : G} {P : Program} {w : World} {K : PySem.W.Frag} {mg : Str → Option Value} {base : Heap} {k : Nat} {f : Addr} {ks : List Str} : Cal g P w K mg base k f ks (fun _ _ => failM) := by
  intro A outer s H us ws vs zs Q E room env r rz ⟨Z, F, st, ds, es, sim, h1, h2, q⟩
  exact q.elim
theorem cal_only {g : G} {P : Program} {w : World} {K : PySem.W.Frag} {mg : Str → Option Value} {base : Heap} {k : Nat} {f : Addr} {ns : List Str} {m : Fn} (C : Cal g P w K mg base k f ns m) (ks : List Str) : Cal g P w K mg base k f ks (onlyK ns m ks) := by
  unfold onlyK
  split
  · rename_i e
    subst e
    exact C
  · exact cal_fail
instance {ps ks : List Str} {m : List D → M Ex D} [MD m] : MF (kdF ps ks m) := ⟨fun ds es => mono_kdF MD.mono ds es⟩
instance [∀ ks, MF (m ks)] [h : MB o] : MB (methKK c mn m o i) := ⟨fun ρ => mono_bind (h.mono ρ) fun x => mono_bind (mono_see _) fun _ => mono_bind (mono_var i ρ) fun _ => mono_bind (mono_see _) fun _ => MF.mono _ _⟩
instance [∀ ks, MF (m ks)] : MB (makeKK c m freeze i) := ⟨fun ρ => mono_bind (mono_var i ρ) fun _ => mono_bind (mono_see _) fun q => (inferInstance : MF (mkM c (m q.1) freeze)).mono _ _⟩
instance [∀ ks, MF (m ks)] : MB (makeKK c m stay i) := ⟨fun ρ => mono_bind (mono_var i ρ) fun _ => mono_bind (mono_see _) fun q => (inferInstance : MF (mkM c (m q.1) stay)).mono _ _⟩
theorem x_makeKK : makeKK c m fin i ρ s Q E = varO ρ[i]? s (fun t s1 => ∃ q, kkO t s1 = some q ∧ mkM c (m q.1) fin [] q.2 s1 Q E) E := rfl
theorem x_methKK : methKK c mn m o i ρ s Q E = o ρ s (fun x s1 => ∃ u, insOk c mn x s1 = some u ∧ varO ρ[i]? s1 (fun t s2 => ∃ q, kkO t s2 = some q ∧ m q.1 [x] q.2 s2 Q E) E) E := rfl
theorem kkO_of {t : D} {ks : List Str} {vs : List D} (h : dicOf s t = some ((ks.map Sum.inr).zip vs)) (hl : ks.length = vs.length) : kkO t s = some (ks, vs) := by
  unfold kkO
  rw [h, Option.bind_some, List.map_fst_zip (by rw [List.length_map]; omega), strsK_of, Option.map_some, List.map_snd_zip (by rw [List.length_map]; omega)]
theorem x_onlyK {ns : List Str} {n : Fn} : onlyK ns n ns = n := if_pos rfl
theorem x_kdF {ps ks : List Str} {n : List D → M Ex D} {ds es : List D} (h1 : ds.length = ps.length) (h2 : es.length = ks.length) (h3 : ks.length ≤ sizeLine) (h4 : ks.Nodup) (h5 : ∀ x ∈ ks, x ∉ ps) : kdF ps ks n ds es s Q E = ∀ a, s.map a = none → n (ds ++ [.ref a]) (s.set a (.dic ((ks.map Sum.inr).zip es))) Q E := by
  unfold kdF
  rw [if_pos ⟨h1, h2, h3, h4, h5⟩]; rfl
end
end DL

namespace DL
def runs_D34 := And.intro @x_makeKK (@x_methKK)
end DL
/-! ### for k in d: a local dict that is not changed within -/
namespace DL
open PySem L2
section
variable {g : G} {Z F F' H H' : Hp} {W : WX} {σ : St} {ρ : Env} {st : S} {X : Cx} {e : Expr} {pos p : Pos} {x : Str}
theorem Sim.lock {pp : Addr} {o : HO} {ob : Ob} (s : Sim g Z st F H) (e : st.map pp = some ob) (nb : ob ≠ .raw) : Sim g (upd Z pp o) (st.del pp) F (upd H pp o) := by
  obtain ⟨f, _⟩ := s.ob pp ob e
  refine ⟨same_at s.same f, fun a u q => ?_, fun a u q => ?_⟩
  · have z : a ≠ pp := by rintro rfl; rw [S.del_same] at q; cases q
    rw [S.del_ne z] at q
    obtain ⟨f1, r1⟩ := s.ob a u q
    refine ⟨f1, r1.move (Same.refl _) (upd_ne z) fun c m => ?_⟩
    rw [S.del_ne (by rintro rfl; rw [e] at m; exact nb (Option.some.inj m))]; exact m
  · by_cases z : a = pp
    · subst z; rw [upd_same] at q; cases q; exact ⟨f, S.del_same, upd_same⟩
    · rw [upd_ne z] at q
      obtain ⟨f1, m, h1⟩ := s.pin a u q
      exact ⟨f1, by rw [S.del_ne z]; exact m, by rw [upd_ne z]; exact h1⟩
theorem Sim.weakZ {pp : Addr} {o : HO} (s : Sim g (upd Z pp o) st F H) (z : Z pp = none) : Sim g Z st F H := ⟨s.same, s.ob, fun a u q => s.pin a u (by rw [upd_ne (by rintro rfl; rw [z] at q; cases q)]; exact q)⟩
def keyT : Key → D
  | .inl i => .int i
  | .inr z => .str z
theorem keyT_rel {k : Key} : RelD g F (keyT k) (kV k) := by
  cases k with
  | inl i => exact relD_int
  | inr z => exact relD_str
theorem keysT_rel : ∀ {kvs : List (Key × V)} {kds : List (Key × D)}, kvs.map (·.1) = kds.map (·.1) → RelDs g F (kds.map fun q => keyT q.1) (kvs.map fun q => kV q.1)
  | [], [], _ => .nil
  | k :: kvs, d :: kds, h => by
    injection h with h1 h2
    rw [List.map_cons, List.map_cons, show k.1 = d.1 from h1]
    exact .cons keyT_rel (keysT_rel h2)
def forKS (i : Nat) (f : D → Env → Option Env) (b : Env → MS) : Env → MS := fun ρ s Q E => ∃ a kvs, ρ[i]? = some (some (.ref a)) ∧ s.map a = some (.dic kvs) ∧ loopS (fun _ => True) f b (kvs.map fun q => keyT q.1) ρ (s.del a) (fun fl s' => s'.map a = none ∧ Q fl (s'.set a (.dic kvs))) E
theorem mono_forKS {i : Nat} {f : D → Env → Option Env} {b : Env → MS} (h : ∀ ρ, Mono (b ρ)) (ρ : Env) : Mono (forKS i f b ρ) := fun s _ _ _ _ hq he ⟨a, kvs, h1, h2, q⟩ => ⟨a, kvs, h1, h2, mono_loopS h _ _ _ _ _ _ _ (fun _ _ z => ⟨z.1, hq _ _ z.2⟩) he q⟩
instance {i : Nat} {f : D → Env → Option Env} {b : Env → MS} [MB b] : MB (forKS i f b) := ⟨mono_forKS MB.mono⟩
theorem fs_forK {tg : Expr} {body : List Stmt} {i : Nat} {f : D → Env → Option Env} {b : Env → MS} (hp : PassesOwn (model X.prog X.w) X.A X.env X.xe) (hc : X.calm = true) (hN : X.N[i]? = some x) (hv : Vis X.env.scope x) (hg : FG g X tg f) (hb : FB g X W body b)
    (hdb : (x == ("__debug__" : Str)) = false := by decide) (hcd : (x == ("__classdict__" : Str)) = false := by decide) (hs : ∀ y, foldedSetIterable (.Name x p) X.env y = pure y := by intro _; rfl) : FS g X W (.For tg (.Name x p) body [] pos) (forKS i f b) := by
  refine ⟨PS.imp (ps_lock (ps_for hp hc (pi_keys (pe_var hN hv hdb hcd)) hg hb.ps hs)) fun D σ H ⟨Z, F, st, ρ, E, N, a, kds, hρ, hm, q⟩ => ?_, mono_forKS hb.mono⟩
  obtain ⟨v, e', rv⟩ := N.env.2 i _ hρ
  unfold RelD at rv
  subst rv
  obtain ⟨nF, kvs, hH, hk, hr⟩ := N.sim.ob a _ hm
  have zf : Z a = none := by
    cases ez : Z a with
    | none => rfl
    | some o => have := (N.sim.pin a o ez).2.1; rw [hm] at this; cases this
  refine ⟨a, .dK kvs, hH, trivial, fun od => ?_⟩
  have sim1 : Sim g (upd Z a (.frz od (.dK kvs))) (st.del a) F (upd H a (.frz od (.dK kvs))) := N.sim.lock hm (by simp)
  have lk1 : Lk g W (upd Z a (.frz od (.dK kvs))) F E := fun x ρ st F' H' u d σ e s => N.lk x ρ st F' H' u d σ e (s.weakZ zf)
  refine ⟨_, e', a, od, rfl, .inl ⟨kvs, upd_same, ?_⟩⟩
  have hlk : kvs.length = kds.length := by have := congrArg List.length hk; simpa using this
  let u : HO := .dK kvs
  let D' : Ends := ⟨fun σ' H' => H' a = some (.frz od u) ∧ D.nx σ' (upd H' a u), fun v H' => H' a = some (.frz od u) ∧ D.rt v (upd H' a u), fun σ' H' => H' a = some (.frz od u) ∧ D.bk σ' (upd H' a u), fun σ' H' => H' a = some (.frz od u) ∧ D.ct σ' (upd H' a u)⟩
  have back : ∀ {F' H' : Hp} {s' : S}, Same F F' → Sim g (upd Z a (.frz od u)) s' F' H' → s'.map a = none → H' a = some (.frz od u) ∧ Sim g Z (s'.set a (.dic kds)) F' (upd H' a u) := fun {F' H' s'} e s hn => by
    obtain ⟨_, _, h⟩ := s.pin a _ upd_same
    refine ⟨h, (s.pinSet (o' := u)).pinPut zf ⟨kvs, upd_same, hk, hr.mono e⟩⟩
  have q1 : loopS (fun _ => True) f b (kds.map fun q => keyT q.1) ρ (st.del a) (ResF g (upd Z a (.frz od u)) F D') (Err E) := by
    refine mono_loopS hb.mono _ _ _ _ _ _ _ (fun fl s' z => ?_) (fun _ _ z => z) q
    obtain ⟨z1, z2⟩ := z
    cases fl with
    | nx ρ' => exact fun σ' F' H' e s env => let ⟨y1, y2⟩ := back e s z1; ⟨y1, z2 σ' F' _ e y2 env⟩
    | rt d => exact fun v F' H' e s r => let ⟨y1, y2⟩ := back e s z1; ⟨y1, z2 v F' _ e y2 r⟩
    | bk ρ' => exact fun σ' F' H' e s env => let ⟨y1, y2⟩ := back e s z1; ⟨y1, z2 σ' F' _ e y2 env⟩
    | ct ρ' => exact fun σ' F' H' e s env => let ⟨y1, y2⟩ := back e s z1; ⟨y1, z2 σ' F' _ e y2 env⟩
  clear q
  have hkeys : RelDs g F (kds.map fun q => keyT q.1) (kvs.map fun q => kV q.1) := keysT_rel hk
  generalize hit : (kds.map fun q => keyT q.1) = items at q1 hkeys
  have hil : items.length = kvs.length := by rw [← hit, List.length_map, hlk]
  refine ⟨fun i m σ H => m = items.length - i ∧ i ≤ items.length ∧ ∃ F3 st3 ρ3, Same F F3 ∧ Now g W (upd Z a (.frz od u)) σ H F3 ρ3 st3 E ∧ loopS (fun _ => True) f b (items.drop i) ρ3 st3 (ResF g (upd Z a (.frz od u)) F3 D') (Err E), ⟨_, rfl, Nat.zero_le _, F, st.del a, ρ, Same.refl _, ⟨sim1, N.env, lk1⟩, q1⟩, ?_⟩
  rintro i m σ1 H1 ⟨rfl, hi1, F3, st3, ρ3, e3, N3, q3⟩
  have ha := (N3.sim.pin a _ upd_same).2.2
  by_cases hlt : i < items.length
  · rw [List.drop_eq_getElem_cons hlt] at q3
    obtain ⟨pp, ρ4, hf, q3⟩ := q3
    refine .inr ⟨⟨ha, by rw [← hil]; exact hlt⟩, fun σ' H' => ∃ F5 st5 ρ5, Same F F5 ∧ Now g W (upd Z a (.frz od u)) σ' H' F5 ρ5 st5 E ∧ loopS (fun _ => True) f b (items.drop (i + 1)) ρ5 st5 (ResF g (upd Z a (.frz od u)) F5 D') (Err E), fun σ' H' h => ⟨items.length - (i + 1), by omega, rfl, hlt, h⟩, fun x H' y => ?_⟩
    obtain ⟨rfl, k, v, hkv, rfl⟩ := y
    have r : RelD g F3 items[i] (kV k) := by
      obtain ⟨d, h4, h5⟩ := hkeys.get' (v := kV k) (i := i) (by rw [List.getElem?_map, hkv]; rfl)
      rw [List.getElem?_eq_getElem hlt] at h4
      rw [Option.some.inj h4]; exact h5.mono e3
    refine ⟨_, F3, st3, items[i], ρ3, ρ4, N3.sim, N3.env, r, hf, fun σ2 env2 => ?_⟩
    refine ⟨_, F3, st3, ρ4, E, ⟨N3.sim, env2, N3.lk⟩, hb.mono ρ4 _ _ _ _ _ (fun fl s k => ?_) (fun _ _ x => x) q3⟩
    cases fl with
    | nx ρ5 => exact fun σ' F' H' e sim env => ⟨F', s, ρ5, e3.trans e, ⟨sim, env, N3.lk.mono e⟩, mono_loopS hb.mono _ _ _ _ _ _ _ (fun _ _ z => z.mono e) (fun _ _ x => x) k⟩
    | ct ρ5 => exact fun σ' F' H' e sim env => ⟨F', s, ρ5, e3.trans e, ⟨sim, env, N3.lk.mono e⟩, mono_loopS hb.mono _ _ _ _ _ _ _ (fun _ _ z => z.mono e) (fun _ _ x => x) k⟩
    | bk ρ5 => exact fun σ' F' H' e sim env => k σ' F' H' e sim env
    | rt d => exact fun v F' H' e sim r => k v F' H' e sim r
  · have ei : i = items.length := by omega
    subst ei
    rw [List.drop_length] at q3
    obtain ⟨pp, q3⟩ := q3
    exact .inl ⟨⟨ha, by rw [← hil]; exact Nat.le_refl _⟩, q3 σ1 F3 H1 (Same.refl _) N3.sim N3.env⟩
end
end DL

/-! ### d.update(e), both dicts -/
namespace DL
open PySem L2
section
variable {g : G} {Z F F' H H' : Hp} {W : WX} {σ : St} {ρ : Env} {st : S} {X : Cx} {e1 e2 : Expr} {pos : Pos}
def putsK (kvs more : List (Key × V)) : List (Key × V) := more.foldl (fun acc kv => putK acc kv.1 kv.2) kvs
theorem KV.puts : ∀ {more : List (Key × V)} {ws : List (Key × Value)} {kvs : List (Key × V)} {vs : List (Key × Value)}, KV more ws → KV kvs vs → KV (putsK kvs more) (merged vs ws)
  | [], _, _, _, .nil, r => r
  | m :: more, w :: ws, kvs, vs, .cons h t, r => by
    obtain ⟨h1, h2⟩ := h
    show KV (putsK (putK kvs m.1 m.2) more) (merged (stored vs w.1 w.2) ws)
    rw [← h1]
    exact KV.puts t (r.put m.1 h2)
theorem putsK_len : ∀ (more kvs : List (Key × V)), (putsK kvs more).length ≤ kvs.length + more.length
  | [], kvs => Nat.le_refl _
  | m :: more, kvs => by
    have h1 := putsK_len more (putK kvs m.1 m.2)
    have h2 := length_putK kvs m.1 m.2
    show (putsK (putK kvs m.1 m.2) more).length ≤ _
    rw [List.length_cons]; omega
theorem mt_update : MtR X "dict.update" (fun x xs H Q => ∃ a o kvs more, x = .ref a ∧ xs = [.ref o] ∧ a ≠ o ∧ H a = some (.dK kvs) ∧ H o = some (.dK more) ∧ kvs.length + more.length ≤ sizeLine ∧ Q .non (upd H a (.dK (putsK kvs more)))) := by
  intro pins s σ H x xs v us Q I rx rs h
  obtain ⟨a, o, kvs, more, rfl, rfl, hne, ha, ho, hz, q⟩ := h
  cases rx
  obtain ⟨u, rfl, rfl⟩ := vals1 rs
  obtain ⟨l1, s1, vs, r1, d1⟩ := I.hok a _ ha
  obtain ⟨l2, s2, ws, r2, d2⟩ := I.hok o _ ho
  have e1 : kvs.length = vs.length := Paired.length r1
  have e2 : more.length = ws.length := Paired.length r2
  refine call_meetsIn PySem.F.slot_dict_update d1.typeIs PySem.F.entry_dict_update (PySem.F.args_dict_update_2 _ _) (meets_dict_update (mixKind X.prog X.w) a o hne s2) ⟨vs, ws, d1, d2, by omega, fun h' hd' ho' hs' => ?_⟩
  have new : ObjOk X.prog X.w (upd H a (.dK (putsK kvs more))) h' a (.dK (putsK kvs more)) := ⟨Nat.le_trans (putsK_len more kvs) hz, s1, _, KV.puts r2 r1, hd'⟩
  have I2 := I.write (x := a) (e := a) (o := .dK (putsK kvs more)) (h' := h') (t' := s.toks) (by rw [ha]; trivial) (.inl rfl) (fun b u hb h => (hs'.2 b hb).trans h) (let ⟨o, _, _, ho, _⟩ := hd'; ⟨o, ho⟩) new
  exact ⟨.non, _, I2, rfl, q⟩
def putsKD (kvs more : List (Key × D)) : List (Key × D) := more.foldl (fun acc kv => putKD acc kv.1 kv.2) kvs
theorem putsKD_rel : ∀ {mds : List (Key × D)} {mvs : List (Key × V)} {kds : List (Key × D)} {kvs : List (Key × V)}, mvs.map (·.1) = mds.map (·.1) → RelDs g F (mds.map (·.2)) (mvs.map (·.2)) → kvs.map (·.1) = kds.map (·.1) → RelDs g F (kds.map (·.2)) (kvs.map (·.2)) →
    (putsK kvs mvs).map (·.1) = (putsKD kds mds).map (·.1) ∧ RelDs g F ((putsKD kds mds).map (·.2)) ((putsK kvs mvs).map (·.2))
  | [], [], _, _, _, _, h, r => ⟨h, r⟩
  | [], _ :: _, _, _, h, _, _, _ => by cases h
  | _ :: _, [], _, _, h, _, _, _ => by cases h
  | m :: mds, v :: mvs, kds, kvs, h1, r1, h, r => by
    injection h1 with h2 h3
    obtain ⟨w, ws, e, q1, q2⟩ := r1.cons_inv
    cases e
    obtain ⟨p1, p2⟩ := putKD_rel (k := m.1) q1 h r
    show (putsK (putK kvs v.1 v.2) mvs).map (·.1) = (putsKD (putKD kds m.1 m.2) mds).map (·.1) ∧ _
    rw [show v.1 = m.1 from h2]
    refine (putsKD_rel h3 q2 p1 p2).imp (fun z => z) fun z => ?_
    show RelDs g F ((putsKD (putKD kds m.1 m.2) mds).map (·.2)) ((putsK (putK kvs v.1 v.2) mvs).map (·.2))
    rw [show v.1 = m.1 from h2]
    exact z
/-- x is a place with a dict -/
def isDicP (x : D) (st : S) : Option Unit := match x with
  | .ref a => (obK (st.map a)).map fun _ => ()
  | _ => none
def updF (x y : D) : M Ex D := fun s Q _ => ∃ a kvs more, x = .ref a ∧ s.map a = some (.dic kvs) ∧ dicOf s y = some more ∧ y ≠ .ref a ∧ kvs.length + more.length ≤ sizeLine ∧ Q .non (s.set a (.dic (putsKD kvs more)))
theorem mono_updF {x y : D} : Mono (updF x y) := fun _ _ _ _ _ hq _ ⟨a, kvs, more, h1, h2, h3, h4, h5, h⟩ => ⟨a, kvs, more, h1, h2, h3, h4, h5, hq _ _ h⟩
def updM (o v : Env → M Ex D) : Env → M Ex D := fun ρ => bindM (o ρ) fun x => bindM (seeM (isDicP x)) fun _ => bindM (v ρ) fun y => updF x y
theorem mono_updM {o v : Env → M Ex D} (ho : ∀ ρ, Mono (o ρ)) (hv : ∀ ρ, Mono (v ρ)) (ρ : Env) : Mono (updM o v ρ) := mono_bind (ho ρ) fun _ => mono_bind (mono_see _) fun _ => mono_bind (hv ρ) fun _ => mono_updF
instance {o v : Env → M Ex D} [MB o] [MB v] : MB (updM o v) := ⟨mono_updM MB.mono MB.mono⟩
theorem isDicP_inv {x : D} {v : V} (sim : Sim g Z st F H) (r : RelD g F x v) (h : isDicP x st = some ()) : ∃ a kvs, v = .ref a ∧ H a = some (.dK kvs) := by
  cases x with
  | ref a =>
    obtain ⟨xs, h1, _⟩ := Option.map_eq_some_iff.mp h
    obtain ⟨a', kvs, e, h2, _⟩ := sim.dicOf r (show DL.dicOf st (.ref a) = some xs from h1)
    exact ⟨a', kvs, e, h2⟩
  | _ => cases h
theorem fe_update {apos : Pos} {o v : Env → M Ex D} (ho : FE g X W e1 o) (hv : FE g X W e2 v)
    (hbase : attributeBase e1 "update" X.env (eval e1 X.env) = eval e1 X.env := by rfl)
    (hfew : ((backTo pos (starEach [e2] X.env)).all (fun x => !x.1) && (backToKw pos (keywordEach [] X.env)).all (fun x => x.1.isSome)
      && decide ([e2].length + ([] : List Keyword).length + (if ([] : List Keyword).isEmpty then 0 else 1) < 30)) = true := by rfl)
    (hline : (apos.endLine == pos.line) = true := by rfl) (hs : starEach [e2] X.env = (false, eval e2 X.env) :: starEach [] X.env := by rfl) (hplain : (backTo pos (starEach [] X.env)).any (·.1) = false := by rfl) :
    FE g X W (.Call (.Attribute e1 "update" apos) [e2] [] pos) (updM o v) := by
  refine ⟨PE.imp (pe_bm PySem.F.plainAttrs_dict PySem.F.slot_dict_update PySem.F.type_dict_update mt_update ho.pe (pa_cons hv.pe pa_nil hs) hbase hfew hline hs hplain) fun σ H Q ⟨Z, F, st, ρ, E, N, q⟩ => ?_, mono_updM ho.mono hv.mono⟩
  have mk : ∀ x, Mono (bindM (v ρ) fun y => updF x y) := fun x => mono_bind (hv.mono ρ) fun _ => mono_updF
  refine tX.go (R1 := RelD g) N (ho.mono ρ) (fun x => mono_bind (mono_see _) fun _ => mk x) q fun dx x F st H1 e1 N rx q => ?_
  obtain ⟨_, hi, q⟩ := q
  obtain ⟨a, kvs0, rfl, ha⟩ := isDicP_inv N.sim rx hi
  refine ⟨.inr (.inr (.inl ⟨rfl, .inl ⟨kvs0, ha⟩⟩)), tX.go (R1 := RelD g) N (hv.mono ρ) (fun _ => mono_updF) q fun dy y F st H2 e2 N ry q => ?_⟩
  obtain ⟨a', kds, mds, rfl, hm, hd, hne, hz, q⟩ := q
  unfold RelD at rx
  cases rx
  obtain ⟨nF, kvs, hH, hk, hr⟩ := N.sim.ob a _ hm
  obtain ⟨b, mvs, rfl, hb, hk2, hr2⟩ := N.sim.dicOf ry hd
  have hab : a ≠ b := by
    rintro rfl
    cases dy with
    | ref b' => unfold RelD at ry; cases ry; exact hne rfl
    | dic ks ds =>
      unfold RelD at ry
      obtain ⟨a2, kvs2, e, h3, _⟩ := ry
      cases e
      rw [nF] at h3; cases h3
    | _ => cases hd
  have l1 : kvs.length = kds.length := by have := congrArg List.length hk; simpa using this
  have l2 : mvs.length = mds.length := by have := congrArg List.length hk2; simpa using this
  obtain ⟨p1, p2⟩ := putsKD_rel hk2 hr2 hk hr
  exact ⟨a, b, kvs, mvs, rfl, rfl, hab, hH, hb, by omega, q .non F _ (Same.refl _) (N.sim.put nF (.inr ⟨_, hm, by intro z; cases z⟩) ⟨_, upd_same, p1, p2⟩) relD_non⟩
end
section
variable {ρ : Env} {s : S} {Q : D → S → Prop} {E : Ex → S → Prop} {QF : Fl → S → Prop} {EE : Ex × Env → S → Prop} {o v : Env → M Ex D} {a : Addr} {kvs more : List (Key × D)} {y : D}
theorem x_updM : updM o v ρ s Q E = o ρ s (fun x s1 => ∃ u, isDicP x s1 = some u ∧ v ρ s1 (fun y s2 => updF x y s2 Q E) E) E := rfl
theorem isDicP_at (h : s.map a = some (.dic kvs)) : isDicP (.ref a) s = some () := by
  show (obK (s.map a)).map _ = _
  rw [h]; rfl
theorem isDicP_set : isDicP (.ref a) (s.set a (.dic kvs)) = some () := isDicP_at S.set_same
theorem x_updF (h : s.map a = some (.dic kvs)) (hd : dicOf s y = some more) (hne : y ≠ .ref a) (hz : kvs.length + more.length ≤ sizeLine) : updF (.ref a) y s Q E = Q .non (s.set a (.dic (putsKD kvs more))) := by
  refine propext ⟨fun ⟨a', k', m', e, h1, h2, h3, h4, h5⟩ => ?_, fun q => ⟨a, kvs, more, rfl, h, hd, hne, hz, q⟩⟩
  cases e
  rw [h] at h1
  cases h1
  rw [hd] at h2
  cases h2
  exact h5
theorem x_forKS {i : Nat} {f : D → Env → Option Env} {b : Env → MS} (hi : ρ[i]? = some (some (.ref a))) (h : s.map a = some (.dic kvs)) : forKS i f b ρ s QF EE = loopS (fun _ => True) f b (kvs.map fun q => keyT q.1) ρ (s.del a) (fun fl s' => s'.map a = none ∧ QF fl (s'.set a (.dic kvs))) EE := by
  refine propext ⟨fun ⟨a', k', h1, h2, h3⟩ => ?_, fun q => ⟨a, kvs, hi, h, q⟩⟩
  rw [hi] at h1
  cases h1
  rw [h] at h2
  cases h2
  exact h3
end
end DL

namespace DL
def runs_D36 := And.intro @x_updM (@isDicP_set)
end DL
/-! ### a suite that is never come to -/
namespace DL
open PySem L2
section
variable {g : G} {X : Cx} {i : Option Nat} {a : Addr} {cls : Value} {d : Option Addr}
def hnever : Ex → Env → MS := fun _ _ => failM
instance : MHf hnever := ⟨fun _ _ => mono_fail⟩
theorem su_never {s : Stmt} : PSs X [s] (tSu g i a cls d hnever) :=
  pss_one ⟨fun _ _ _ _ _ _ ⟨_, _, _, _, _, _, _, _, _, q⟩ => q.elim⟩
end
end DL

namespace DL
open PySem L2
abbrev ownC : List Str := ["Maker", "Kind", "Part", "Family"]
def t_CHOICES : List (Str × D) := [("place", (.tup [(.str "here"), (.str "each"), (.str "near"), (.str "nowhere")])), ("key", (.tup [(.str "none"), (.str "class"), (.str "arguments"), (.str "both")])), ("store", (.tup [(.str "ahead"), (.str "behind"), (.str "late")])), ("stopped", (.tup [(.str "leave"), (.str "drop")])), ("fits", (.tup [(.str "any"), (.str "kin"), (.str "same")])), ("misfit", (.tup [(.str "anew"), (.str "refuse")])), ("compare", (.tup [(.str "never"), (.str "public"), (.str "asked")])), ("unlike", (.tup [(.str "anew"), (.str "refuse")])), ("unready", (.tup [(.str "give"), (.str "refuse"), (.str "anew")])), ("again", (.tup [(.str "yes"), (.str "no")]))]
def c_UPS : D := (.tup [(.str "first"), (.str "last"), (.str "alone")])
def cc_Family_MOST_KINDS : D := (.int 16)
def cc_Maker_RULES : D := (.tup [(.str "place"), (.str "key"), (.str "store"), (.str "stopped"), (.str "fits"), (.str "misfit"), (.str "compare"), (.str "unlike"), (.str "unready"), (.str "again")])
def exT : List ((Str × Str) × Bool) := []
abbrev exS : Str → Str → Option Bool := subT2 exT
abbrev d_bag : List D → M Ex D := bagF
abbrev f_bag_1 : Fn := posF 1 [] d_bag
def b_table : Env → MS := (retS (lstE (argsC (tupE (argsC (cst (.str "place")) (argsC (tupE (argsC (cst (.str "here")) (argsC (cst (.str "each")) (argsC (cst (.str "near")) (argsC (cst (.str "nowhere")) argsN))))) argsN))) (argsC (tupE (argsC (cst (.str "key")) (argsC (tupE (argsC (cst (.str "none")) (argsC (cst (.str "class")) (argsC (cst (.str "arguments")) (argsC (cst (.str "both")) argsN))))) argsN))) (argsC (tupE (argsC (cst (.str "store")) (argsC (tupE (argsC (cst (.str "ahead")) (argsC (cst (.str "behind")) (argsC (cst (.str "late")) argsN)))) argsN))) (argsC (tupE (argsC (cst (.str "stopped")) (argsC (tupE (argsC (cst (.str "leave")) (argsC (cst (.str "drop")) argsN))) argsN))) (argsC (tupE (argsC (cst (.str "fits")) (argsC (tupE (argsC (cst (.str "any")) (argsC (cst (.str "kin")) (argsC (cst (.str "same")) argsN)))) argsN))) (argsC (tupE (argsC (cst (.str "misfit")) (argsC (tupE (argsC (cst (.str "anew")) (argsC (cst (.str "refuse")) argsN))) argsN))) (argsC (tupE (argsC (cst (.str "compare")) (argsC (tupE (argsC (cst (.str "never")) (argsC (cst (.str "public")) (argsC (cst (.str "asked")) argsN)))) argsN))) (argsC (tupE (argsC (cst (.str "unlike")) (argsC (tupE (argsC (cst (.str "anew")) (argsC (cst (.str "refuse")) argsN))) argsN))) (argsC (tupE (argsC (cst (.str "unready")) (argsC (tupE (argsC (cst (.str "give")) (argsC (cst (.str "refuse")) (argsC (cst (.str "anew")) argsN)))) argsN))) (argsC (tupE (argsC (cst (.str "again")) (argsC (tupE (argsC (cst (.str "yes")) (argsC (cst (.str "no")) argsN))) argsN))) argsN))))))))))))
instance : MB b_table := by unfold b_table; infer_instance
def d_table : List D → M Ex D := defM 0 b_table
instance : MD d_table := by unfold d_table; infer_instance
abbrev f_table_0 : Fn := posF 0 [] d_table
abbrev d_draw : List D → M Ex D := drawF
abbrev f_draw_2 : Fn := posF 2 [] d_draw
def b_rules : Env → MS := (seqS (setS 1 dicN) (seqS (forS (iterL (callE f_table_0 argsN argsN)) (toName 2) (keyS (var 1) (op2 ixD (var 2) (cst (.int 0))) (op2 ixD (op2 ixD (var 2) (cst (.int 1))) (callE f_draw_2 (argsC (var 0) (argsC (prim lenD (argsC (op2 ixD (var 2) (cst (.int 1))) argsN)) argsN)) argsN)))) (seqS (freezeS 1) (retS (var 1)))))
instance : MB b_rules := by unfold b_rules; infer_instance
def d_rules : List D → M Ex D := defM 3 b_rules
instance : MD d_rules := by unfold d_rules; infer_instance
abbrev f_rules_1 : Fn := posF 1 [] d_rules
def b_word : Env → MS := (seqS (setS 1 (cst (.str "abcdefghijklmnopqrstuvwxyz"))) (seqS (setS 2 (op2 addD (cst (.int 1)) (callE f_draw_2 (argsC (var 0) (argsC (cst (.int 8)) argsN)) argsN))) (seqS (setS 3 (lcE (iterR range1 (argsC (var 2) argsN)) [4] (toName 4) yesT (op2 ixD (var 1) (callE f_draw_2 (argsC (var 0) (argsC (cst (.int 26)) argsN)) argsN)) outF)) (retS (m1 joinD (cst (.str "")) (var 3))))))
instance : MB b_word := by unfold b_word; infer_instance
def d_word : List D → M Ex D := defM 5 b_word
instance : MD d_word := by unfold d_word; infer_instance
abbrev f_word_1 : Fn := posF 1 [] d_word
def b_short : Env → MS := (seqS (setS 1 (cst (.str "abcdefghijklmnopqrstuvwxyz"))) (seqS (setS 2 (op2 ixD (var 1) (callE f_draw_2 (argsC (var 0) (argsC (cst (.int 26)) argsN)) argsN))) (seqC (ifS (liftT (op2 eqD (callE f_draw_2 (argsC (var 0) (argsC (cst (.int 2)) argsN)) argsN) (cst (.int 1)))) (setS 2 (op2 addD (var 2) (op2 ixD (var 1) (callE f_draw_2 (argsC (var 0) (argsC (cst (.int 26)) argsN)) argsN)))) nilS) (seqC (ifS (liftT (op2 eqD (callE f_draw_2 (argsC (var 0) (argsC (cst (.int 9)) argsN)) argsN) (cst (.int 1)))) (setS 2 (callE f_word_1 (argsC (var 0) argsN) argsN)) nilS) (retS (var 2))))))
instance : MB b_short := by unfold b_short; infer_instance
def d_short : List D → M Ex D := defM 3 b_short
instance : MD d_short := by unfold d_short; infer_instance
abbrev f_short_1 : Fn := posF 1 [] d_short
def b_fresh : Env → MS := (seqS (setS 2 (callE f_short_1 (argsC (var 0) argsN) argsN)) (seqS (ifS (liftT (op2 notInD (var 2) (var 1))) (retS (var 2)) nilS) (seqS (forS (iterS (cst (.str "abcdefghijklmnopqrstuvwxyz"))) (toName 3) (ifS (liftT (op2 notInD (op2 addD (sliceE (var 2) partN (partS (cst (.int 7)))) (var 3)) (var 1))) (retS (op2 addD (sliceE (var 2) partN (partS (cst (.int 7)))) (var 3))) nilS)) (retS (var 2)))))
instance : MB b_fresh := by unfold b_fresh; infer_instance
def d_fresh : List D → M Ex D := defM 4 b_fresh
instance : MD d_fresh := by unfold d_fresh; infer_instance
abbrev f_fresh_2 : Fn := posF 2 [] d_fresh
def b_begin : Env → MS := (seqS (setS 1 (callE f_draw_2 (argsC (var 0) (argsC (cst (.int 4)) argsN)) argsN)) (seqS (ifS (liftT (op2 eqD (var 1) (cst (.int 0)))) (retS (cst .non)) nilS) (retS (tupE (argsC (op2 ixD (tupE (argsC (cst (.str "first")) (argsC (cst (.str "last")) (argsC (cst (.str "alone")) argsN)))) (op2 subD (var 1) (cst (.int 1)))) (argsC (op2 eqD (callE f_draw_2 (argsC (var 0) (argsC (cst (.int 2)) argsN)) argsN) (cst (.int 1))) argsN))))))
instance : MB b_begin := by unfold b_begin; infer_instance
def d_begin : List D → M Ex D := defM 2 b_begin
instance : MD d_begin := by unfold d_begin; infer_instance
abbrev f_begin_1 : Fn := posF 1 [] d_begin
def b_rows : Env → MS := (seqS (setS 2 (lstN argsN)) (seqS (forS (iterR range1 (argsC (var 1) argsN)) (toName 3) (seqS (setS 4 (callE f_fresh_2 (argsC (var 0) (argsC (lcE (iterL (var 2)) [7] (toName 7) yesT (op2 ixD (var 7) (cst (.int 0))) outF) argsN)) argsN)) (seqS (setS 5 (callE f_draw_2 (argsC (var 0) (argsC (op2 addD (var 3) (cst (.int 1))) argsN)) argsN)) (seqC (ifS (andT (liftT (op2 gtD (var 3) (cst (.int 0)))) (andT (liftT (op2 eqD (var 5) (cst (.int 0)))) (liftT (op2 eqD (callE f_draw_2 (argsC (var 0) (argsC (cst (.int 2)) argsN)) argsN) (cst (.int 1)))))) (setS 5 (var 3)) nilS) (seqS (setS 6 (cst .non)) (seqC (ifS (liftT (op2 gtD (var 5) (cst (.int 0)))) (setS 6 (op2 ixD (op2 ixD (var 2) (op2 subD (var 5) (cst (.int 1)))) (cst (.int 0)))) nilS) (exprS (listM appF (var 2) (tupE (argsC (var 4) (argsC (var 6) (argsC (op2 eqD (callE f_draw_2 (argsC (var 0) (argsC (cst (.int 3)) argsN)) argsN) (cst (.int 1))) (argsC (callE f_begin_1 (argsC (var 0) argsN) argsN) argsN))))))))))))) (seqS (freezeS 2) (retS (var 2)))))
instance : MB b_rows := by unfold b_rows; infer_instance
def d_rows : List D → M Ex D := defM 8 b_rows
instance : MD d_rows := by unfold d_rows; infer_instance
abbrev f_rows_2 : Fn := posF 2 [] d_rows
def b_many : Env → MS := (seqS (setS 1 (op2 addD (cst (.int 1)) (callE f_draw_2 (argsC (var 0) (argsC (cst (.int 5)) argsN)) argsN))) (seqC (ifS (liftT (op2 eqD (callE f_draw_2 (argsC (var 0) (argsC (cst (.int 6)) argsN)) argsN) (cst (.int 1)))) (setS 1 (op2 addD (var 1) (callE f_draw_2 (argsC (var 0) (argsC (cst (.int 12)) argsN)) argsN))) nilS) (retS (var 1))))
instance : MB b_many := by unfold b_many; infer_instance
def d_many : List D → M Ex D := defM 2 b_many
instance : MD d_many := by unfold d_many; infer_instance
abbrev f_many_1 : Fn := posF 1 [] d_many
def b_shown : Env → MS := (seqS (setS 2 (lcE (iterL (callE f_table_0 argsN argsN)) [3] (toName 3) yesT (op2 addD (op2 addD (op2 ixD (var 3) (cst (.int 0))) (cst (.str " "))) (op2 dgetD (var 0) (op2 ixD (var 3) (cst (.int 0))))) outN)) (seqS (forS (iterL (var 1)) (toName 3) (seqS (setS 4 (op2 addD (cst (.str "kind ")) (op2 ixD (var 3) (cst (.int 0))))) (seqC (ifS (liftT (op2 isntD (op2 ixD (var 3) (cst (.int 1))) (cst .non))) (setS 4 (op2 addD (op2 addD (op2 addD (var 4) (cst (.str "("))) (op2 ixD (var 3) (cst (.int 1)))) (cst (.str ")")))) nilS) (seqC (ifS (liftT (op2 ixD (var 3) (cst (.int 2)))) (setS 4 (op2 addD (var 4) (cst (.str " own")))) nilS) (seqS (exprS (listM appF (var 2) (var 4))) (ifS (liftT (op2 isntD (op2 ixD (var 3) (cst (.int 3))) (cst .non))) (seqS (setS 4 (op2 addD (cst (.str "begin ")) (op2 ixD (op2 ixD (var 3) (cst (.int 3))) (cst (.int 0))))) (seqC (ifS (liftT (op2 ixD (op2 ixD (var 3) (cst (.int 3))) (cst (.int 1)))) (setS 4 (op2 addD (var 4) (cst (.str " guarded")))) nilS) (exprS (listM appF (var 2) (var 4))))) nilS)))))) (seqS (freezeS 2) (retS (var 2)))))
instance : MB b_shown := by unfold b_shown; infer_instance
def d_shown : List D → M Ex D := defM 5 b_shown
instance : MD d_shown := by unfold d_shown; infer_instance
abbrev f_shown_2 : Fn := posF 2 [] d_shown
def b_is_choice : Env → MS := (retS (andE (prim (isiD ownC) (argsC (var 1) (argsC (cst (.ty "str")) argsN))) (op2 inD (var 1) (op2 (tabD "CHOICES" t_CHOICES) (cst (.cst "CHOICES")) (var 0)))))
instance : MB b_is_choice := by unfold b_is_choice; infer_instance
def d_is_choice : List D → M Ex D := defM 2 b_is_choice
instance : MD d_is_choice := by unfold d_is_choice; infer_instance
abbrev f_is_choice_2 : Fn := posF 2 [] d_is_choice
def b_read_rule : Env → MS := (seqS (setS 2 (op2 addD (var 0) (cst (.str " ")))) (seqS (ifS (notT (liftT (m1 startsD (var 1) (var 2)))) (retS (cst .non)) nilS) (seqS (setS 3 (sliceE (var 1) (partS (prim lenD (argsC (var 2) argsN))) partN)) (seqS (ifS (liftT (callE f_is_choice_2 (argsC (var 0) (argsC (var 3) argsN)) argsN)) (retS (var 3)) nilS) (retS (cst .non))))))
instance : MB b_read_rule := by unfold b_read_rule; infer_instance
def d_read_rule : List D → M Ex D := defM 4 b_read_rule
instance : MD d_read_rule := by unfold d_read_rule; infer_instance
abbrev f_read_rule_2 : Fn := posF 2 [] d_read_rule
def b_is_name : Env → MS := (seqS (ifS (notT (liftT (prim (isiD ownC) (argsC (var 0) (argsC (cst (.ty "str")) argsN))))) (retS (cst (.bl false))) nilS) (seqS (ifS (notT (liftT (chainE leD leD (cst (.int 1)) (prim lenD (argsC (var 0) argsN)) (cst (.int 8))))) (retS (cst (.bl false))) nilS) (seqS (forS (iterS (var 0)) (toName 1) (ifS (liftT (op2 notInD (var 1) (cst (.str "abcdefghijklmnopqrstuvwxyz")))) (retS (cst (.bl false))) nilS)) (retS (cst (.bl true))))))
instance : MB b_is_name := by unfold b_is_name; infer_instance
def d_is_name : List D → M Ex D := defM 2 b_is_name
instance : MD d_is_name := by unfold d_is_name; infer_instance
abbrev f_is_name_1 : Fn := posF 1 [] d_is_name
def b_read_kind : Env → MS := (seqS (ifS (notT (liftT (m1 startsD (var 0) (cst (.str "kind "))))) (retS (cst .non)) nilS) (seqS (setS 1 (sliceE (var 0) (partS (cst (.int 5))) partN)) (seqS (setS 2 (m1 endsD (var 1) (cst (.str " own")))) (seqC (ifS (liftT (var 2)) (setS 1 (sliceE (var 1) partN (partS (cst (.int (-4)))))) nilS) (seqS (asgS (toTup 3 (toCons (toName 3) (toCons (toName 4) (toCons (toName 5) toNil)))) (m1 partD (var 1) (cst (.str "(")))) (seqS (ifS (liftT (op2 eqD (var 4) (cst (.str "")))) (retS (iteE (liftT (callE f_is_name_1 (argsC (var 3) argsN) argsN)) (tupE (argsC (var 3) (argsC (cst .non) (argsC (var 2) (argsC (cst .non) argsN))))) (cst .non))) nilS) (seqS (ifS (notT (liftT (m1 endsD (var 5) (cst (.str ")"))))) (retS (cst .non)) nilS) (seqS (setS 5 (sliceE (var 5) partN (partS (cst (.int (-1)))))) (seqS (ifS (andT (liftT (callE f_is_name_1 (argsC (var 3) argsN) argsN)) (liftT (callE f_is_name_1 (argsC (var 5) argsN) argsN))) (retS (tupE (argsC (var 3) (argsC (var 5) (argsC (var 2) (argsC (cst .non) argsN)))))) nilS) (retS (cst .non)))))))))))
instance : MB b_read_kind := by unfold b_read_kind; infer_instance
def d_read_kind : List D → M Ex D := defM 6 b_read_kind
instance : MD d_read_kind := by unfold d_read_kind; infer_instance
abbrev f_read_kind_1 : Fn := posF 1 [] d_read_kind
def b_read_begin : Env → MS := (seqS (forS (iterT (cst c_UPS)) (toName 1) (seqS (ifS (liftT (op2 eqD (var 0) (op2 addD (cst (.str "begin ")) (var 1)))) (retS (tupE (argsC (var 1) (argsC (cst (.bl false)) argsN)))) nilS) (ifS (liftT (op2 eqD (var 0) (op2 addD (op2 addD (cst (.str "begin ")) (var 1)) (cst (.str " guarded"))))) (retS (tupE (argsC (var 1) (argsC (cst (.bl true)) argsN)))) nilS))) (retS (cst .non)))
instance : MB b_read_begin := by unfold b_read_begin; infer_instance
def d_read_begin : List D → M Ex D := defM 2 b_read_begin
instance : MD d_read_begin := by unfold d_read_begin; infer_instance
abbrev f_read_begin_1 : Fn := posF 1 [] d_read_begin
def b_read_rows : Env → MS := (seqS (setS 1 (lstN argsN)) (seqS (setS 2 (cst (.bl false))) (seqS (forS (iterEL (argsC (var 0) argsN)) (toTup 2 (toCons (toName 3) (toCons (toName 4) toNil))) (seqS (ifS (liftT (op2 ltD (var 3) (prim lenD (argsC (cst cc_Maker_RULES) argsN)))) ctS nilS) (seqS (setS 5 (callE f_read_kind_1 (argsC (var 4) argsN) argsN)) (seqS (ifS (liftT (op2 isntD (var 5) (cst .non))) (seqS (exprS (listM appF (var 1) (var 5))) (seqS (setS 2 (cst (.bl true))) ctS)) nilS) (seqS (setS 6 (callE f_read_begin_1 (argsC (var 4) argsN) argsN)) (seqS (ifS (orT (liftT (op2 isD (var 6) (cst .non))) (notT (liftT (var 2)))) neverS nilS) (seqS (asgS (toTup 4 (toCons (toName 7) (toCons (toName 8) (toCons (toName 9) (toCons (toName 10) toNil))))) (op2 ixD (var 1) (cst (.int (-1))))) (seqS (itemS (var 1) (cst (.int (-1))) (tupE (argsC (var 7) (argsC (var 8) (argsC (var 9) (argsC (var 6) argsN)))))) (setS 2 (cst (.bl false))))))))))) (seqS (freezeS 1) (retS (var 1))))))
instance : MB b_read_rows := by unfold b_read_rows; infer_instance
def d_read_rows : List D → M Ex D := defM 11 b_read_rows
instance : MD d_read_rows := by unfold d_read_rows; infer_instance
abbrev f_read_rows_1 : Fn := posF 1 [] d_read_rows
def b_is_up : Env → MS := (retS (andE (prim (isiD ownC) (argsC (var 0) (argsC (cst (.ty "str")) argsN))) (op2 inD (var 0) (cst c_UPS))))
instance : MB b_is_up := by unfold b_is_up; infer_instance
def d_is_up : List D → M Ex D := defM 1 b_is_up
instance : MD d_is_up := by unfold d_is_up; infer_instance
abbrev f_is_up_1 : Fn := posF 1 [] d_is_up
def b_is_row : Env → MS := (seqS (ifS (orT (notT (liftT (prim (isiD ownC) (argsC (var 0) (argsC (cst (.ty "tuple")) argsN))))) (liftT (op2 neD (prim lenD (argsC (var 0) argsN)) (cst (.int 4))))) (retS (cst (.bl false))) nilS) (seqS (asgS (toTup 4 (toCons (toName 1) (toCons (toName 2) (toCons (toName 3) (toCons (toName 4) toNil))))) (var 0)) (seqS (ifS (orT (notT (liftT (callE f_is_name_1 (argsC (var 1) argsN) argsN))) (orT (notT (orT (liftT (op2 isD (var 2) (cst .non))) (liftT (callE f_is_name_1 (argsC (var 2) argsN) argsN)))) (notT (liftT (prim (isiD ownC) (argsC (var 3) (argsC (cst (.ty "bool")) argsN))))))) (retS (cst (.bl false))) nilS) (seqS (ifS (liftT (op2 isD (var 4) (cst .non))) (retS (cst (.bl true))) nilS) (retS (andE (prim (isiD ownC) (argsC (var 4) (argsC (cst (.ty "tuple")) argsN))) (andE (op2 eqD (prim lenD (argsC (var 4) argsN)) (cst (.int 2))) (andE (callE f_is_up_1 (argsC (op2 ixD (var 4) (cst (.int 0))) argsN) argsN) (prim (isiD ownC) (argsC (op2 ixD (var 4) (cst (.int 1))) (argsC (cst (.ty "bool")) argsN)))))))))))
instance : MB b_is_row := by unfold b_is_row; infer_instance
def d_is_row : List D → M Ex D := defM 5 b_is_row
instance : MD d_is_row := by unfold d_is_row; infer_instance
abbrev f_is_row_1 : Fn := posF 1 [] d_is_row
def b_Kind_init : Env → MS := (seqS (ifS (notT (liftT (callE f_is_name_1 (argsC (var 1) argsN) argsN))) neverS nilS) (seqS (ifS (andT (liftT (op2 isntD (var 2) (cst .non))) (notT (liftT (callE f_is_name_1 (argsC (var 2) argsN) argsN)))) neverS nilS) (seqS (ifS (notT (liftT (prim (isiD ownC) (argsC (var 3) (argsC (cst (.ty "bool")) argsN))))) neverS nilS) (seqS (fldS "Kind" "name" (var 0) (var 1)) (seqS (fldS "Kind" "base" (var 0) (var 2)) (seqS (fldS "Kind" "own" (var 0) (var 3)) (fldS "Kind" "begin" (var 0) (var 4))))))))
instance : MB b_Kind_init := by unfold b_Kind_init; infer_instance
def d_Kind_init : List D → M Ex D := defM 5 b_Kind_init
instance : MD d_Kind_init := by unfold d_Kind_init; infer_instance
def g_Kind_init_3_own {α : Type} : List α → List α → List α → List α → List α
  | [v0, v1, v2], [d0], [m0], [z0] => [v0, v1, v2, z0, m0]
  | _, _, _, _ => []
abbrev f_Kind_init_3_own : Fn := kwF 3 1 (fun vs zs => g_Kind_init_3_own vs [.non] [.non] zs) d_Kind_init
def g_Kind_init_3_own_begin {α : Type} : List α → List α → List α → List α → List α
  | [v0, v1, v2], [d0], [], [z0, z1] => [v0, v1, v2, z0, z1]
  | _, _, _, _ => []
abbrev f_Kind_init_3_own_begin : Fn := kwF 3 2 (fun vs zs => g_Kind_init_3_own_begin vs [.non] [] zs) d_Kind_init
def b_Part_init : Env → MS := (seqS (ifS (notT (liftT (callE f_is_up_1 (argsC (var 1) argsN) argsN))) neverS nilS) (seqS (ifS (notT (liftT (prim (isiD ownC) (argsC (var 2) (argsC (cst (.ty "bool")) argsN))))) neverS nilS) (seqS (fldS "Part" "up" (var 0) (var 1)) (fldS "Part" "guarded" (var 0) (var 2)))))
instance : MB b_Part_init := by unfold b_Part_init; infer_instance
def d_Part_init : List D → M Ex D := defM 3 b_Part_init
instance : MD d_Part_init := by unfold d_Part_init; infer_instance
def g_Part_init_2_guarded {α : Type} : List α → List α → List α → List α → List α
  | [v0, v1], [d0], [], [z0] => [v0, v1, z0]
  | _, _, _, _ => []
abbrev f_Part_init_2_guarded : Fn := kwF 2 1 (fun vs zs => g_Part_init_2_guarded vs [.str "first"] [] zs) d_Part_init
def b_Kind_of : Env → MS := (seqS (ifS (notT (liftT (callE f_is_row_1 (argsC (var 1) argsN) argsN))) neverS nilS) (seqS (asgS (toTup 4 (toCons (toName 2) (toCons (toName 3) (toCons (toName 4) (toCons (toName 5) toNil))))) (var 1)) (seqS (ifS (liftT (op2 isD (var 5) (cst .non))) (retS (fun ρ => bindM (needM (ρ[0]? = some (some (.cls "Kind")))) fun _ => callE (mkM "Kind" f_Kind_init_3_own freeze) (argsC (var 2) (argsC (var 3) argsN)) (argsC (var 4) argsN) ρ)) nilS) (retS (fun ρ => bindM (needM (ρ[0]? = some (some (.cls "Kind")))) fun _ => callE (mkM "Kind" f_Kind_init_3_own_begin freeze) (argsC (var 2) (argsC (var 3) argsN)) (argsC (var 4) (argsC (callE (mkM "Part" f_Part_init_2_guarded freeze) (argsC (op2 ixD (var 5) (cst (.int 0))) argsN) (argsC (op2 ixD (var 5) (cst (.int 1))) argsN)) argsN)) ρ)))))
instance : MB b_Kind_of := by unfold b_Kind_of; infer_instance
def d_Kind_of : List D → M Ex D := defM 6 b_Kind_of
instance : MD d_Kind_of := by unfold d_Kind_of; infer_instance
abbrev f_Kind_of_2 : Fn := posF 2 [] d_Kind_of
def b_first_kind : Env → MS := (seqS (ifS (notT (liftT (prim (isiD ownC) (argsC (var 1) (argsC (cst (.ty "str")) argsN))))) (retS (cst .non)) nilS) (seqS (forS (iterT (var 0)) (toName 2) (ifS (liftT (op2 eqD (fldE "Kind" "name" (var 2)) (var 1))) (retS (var 2)) nilS)) (retS (cst .non))))
instance : MB b_first_kind := by unfold b_first_kind; infer_instance
def d_first_kind : List D → M Ex D := defM 3 b_first_kind
instance : MD d_first_kind := by unfold d_first_kind; infer_instance
abbrev f_first_kind_2 : Fn := posF 2 [] d_first_kind
def b_Family_init : Env → MS := (seqS (ifS (liftT (op2 gtD (prim lenD (argsC (var 2) argsN)) (cst cc_Family_MOST_KINDS))) neverS nilS) (seqS (forS (iterET (argsC (var 2) argsN)) (toTup 2 (toCons (toName 3) (toCons (toName 4) toNil))) (seqS (ifS (liftT (op2 isntD (callE f_first_kind_2 (argsC (sliceE (var 2) partN (partS (var 3))) (argsC (fldE "Kind" "name" (var 4)) argsN)) argsN) (cst .non))) neverS nilS) (ifS (andT (liftT (op2 isntD (fldE "Kind" "base" (var 4)) (cst .non))) (liftT (op2 isD (callE f_first_kind_2 (argsC (sliceE (var 2) partN (partS (var 3))) (argsC (fldE "Kind" "base" (var 4)) argsN)) argsN) (cst .non)))) neverS nilS))) (seqS (fldS "Family" "maker" (var 0) (var 1)) (fldS "Family" "kinds" (var 0) (var 2)))))
instance : MB b_Family_init := by unfold b_Family_init; infer_instance
def d_Family_init : List D → M Ex D := defM 5 b_Family_init
instance : MD d_Family_init := by unfold d_Family_init; infer_instance
abbrev f_Family_init_star : Fn := starF 2 d_Family_init
def b_Family_of : Env → MS := (retS (fun ρ => bindM (needM (ρ[0]? = some (some (.cls "Family")))) fun _ => callE (mkM "Family" f_Family_init_star freeze) (argsC (var 1) (argsS (var 2) argsN)) argsN ρ))
instance : MB b_Family_of := by unfold b_Family_of; infer_instance
def d_Family_of : List D → M Ex D := defM 3 b_Family_of
instance : MD d_Family_of := by unfold d_Family_of; infer_instance
abbrev f_Family_of_3 : Fn := posF 3 [] d_Family_of
def b_Maker_init : Env → MS := (seqS (setS 11 (tupE (argsC (var 1) (argsC (var 2) (argsC (var 3) (argsC (var 4) (argsC (var 5) (argsC (var 6) (argsC (var 7) (argsC (var 8) (argsC (var 9) (argsC (var 10) argsN)))))))))))) (seqS (forS (iterZ (argsC (cst cc_Maker_RULES) (argsC (var 11) argsN))) (toTup 2 (toCons (toName 12) (toCons (toName 13) toNil))) (ifS (notT (liftT (callE f_is_choice_2 (argsC (var 12) (argsC (var 13) argsN)) argsN))) neverS nilS)) (seqS (fldS "Maker" "place" (var 0) (var 1)) (seqS (fldS "Maker" "key" (var 0) (var 2)) (seqS (fldS "Maker" "store" (var 0) (var 3)) (seqS (fldS "Maker" "stopped" (var 0) (var 4)) (seqS (fldS "Maker" "fits" (var 0) (var 5)) (seqS (fldS "Maker" "misfit" (var 0) (var 6)) (seqS (fldS "Maker" "compare" (var 0) (var 7)) (seqS (fldS "Maker" "unlike" (var 0) (var 8)) (seqS (fldS "Maker" "unready" (var 0) (var 9)) (fldS "Maker" "again" (var 0) (var 10)))))))))))))
instance : MB b_Maker_init := by unfold b_Maker_init; infer_instance
def d_Maker_init : List D → M Ex D := defM 14 b_Maker_init
instance : MD d_Maker_init := by unfold d_Maker_init; infer_instance
def g_Maker_init_1_place_key_store_stopped_fits_misfit_compare_unlike_unready_again {α : Type} : List α → List α → List α → List α → List α
  | [v0], [], [], [z0, z1, z2, z3, z4, z5, z6, z7, z8, z9] => [v0, z0, z1, z2, z3, z4, z5, z6, z7, z8, z9]
  | _, _, _, _ => []
abbrev f_Maker_init_1_place_key_store_stopped_fits_misfit_compare_unlike_unready_again : Fn := kwF 1 10 (fun vs zs => g_Maker_init_1_place_key_store_stopped_fits_misfit_compare_unlike_unready_again vs [] [] zs) d_Maker_init
def b_read_family : Env → MS := (seqS (ifS (notT (liftT (prim (isiD ownC) (argsC (var 0) (argsC (cst (.ty "str")) argsN))))) neverS nilS) (seqS (setS 1 (m1 splitD (var 0) (cst (.str "\n")))) (seqS (setS 2 dicN) (seqS (forS (iterET (argsC (cst cc_Maker_RULES) argsN)) (toTup 2 (toCons (toName 3) (toCons (toName 4) toNil))) (seqS (ifS (liftT (op2 geD (var 3) (prim lenD (argsC (var 1) argsN)))) neverS nilS) (seqS (setS 5 (callE f_read_rule_2 (argsC (var 4) (argsC (op2 ixD (var 1) (var 3)) argsN)) argsN)) (seqS (ifS (liftT (op2 isD (var 5) (cst .non))) neverS nilS) (keyS (var 2) (var 4) (var 5)))))) (seqS (setS 6 (callE f_read_rows_1 (argsC (var 1) argsN) argsN)) (seqS (setS 7 (lcE (iterL (var 6)) [9] (toName 9) yesT (callE (fun ds es => f_Kind_of_2 (.cls "Kind" :: ds) es) (argsC (var 9) argsN) argsN) outF)) (tryS exS (retD [2] (callE (fun ds es => f_Family_of_3 (.cls "Family" :: ds) es) (argsC (makeKK "Maker" (onlyK ["place", "key", "store", "stopped", "fits", "misfit", "compare", "unlike", "unready", "again"] f_Maker_init_1_place_key_store_stopped_fits_misfit_compare_unlike_unready_again) freeze 2) (argsC (var 7) argsN)) argsN)) [⟨"OneError", some 8, hnever⟩])))))))
instance : MB b_read_family := by unfold b_read_family; infer_instance
def d_read_family : List D → M Ex D := defM 10 b_read_family
instance : MD d_read_family := by unfold d_read_family; infer_instance
abbrev f_read_family_1 : Fn := posF 1 [] d_read_family
def b_Kind_row : Env → MS := (seqS (ifS (liftT (op2 isD (fldE "Kind" "begin" (var 0)) (cst .non))) (retS (tupE (argsC (fldE "Kind" "name" (var 0)) (argsC (fldE "Kind" "base" (var 0)) (argsC (fldE "Kind" "own" (var 0)) (argsC (cst .non) argsN)))))) nilS) (retS (tupE (argsC (fldE "Kind" "name" (var 0)) (argsC (fldE "Kind" "base" (var 0)) (argsC (fldE "Kind" "own" (var 0)) (argsC (tupE (argsC (fldE "Part" "up" (fldE "Kind" "begin" (var 0))) (argsC (fldE "Part" "guarded" (fldE "Kind" "begin" (var 0))) argsN))) argsN)))))))
instance : MB b_Kind_row := by unfold b_Kind_row; infer_instance
def d_Kind_row : List D → M Ex D := defM 1 b_Kind_row
instance : MD d_Kind_row := by unfold d_Kind_row; infer_instance
abbrev f_Kind_row_1 : Fn := posF 1 [] d_Kind_row
def b_Maker_written : Env → MS := (retS (tupE (argsC (fldE "Maker" "place" (var 0)) (argsC (fldE "Maker" "key" (var 0)) (argsC (fldE "Maker" "store" (var 0)) (argsC (fldE "Maker" "stopped" (var 0)) (argsC (fldE "Maker" "fits" (var 0)) (argsC (fldE "Maker" "misfit" (var 0)) (argsC (fldE "Maker" "compare" (var 0)) (argsC (fldE "Maker" "unlike" (var 0)) (argsC (fldE "Maker" "unready" (var 0)) (argsC (fldE "Maker" "again" (var 0)) argsN))))))))))))
instance : MB b_Maker_written := by unfold b_Maker_written; infer_instance
def d_Maker_written : List D → M Ex D := defM 1 b_Maker_written
instance : MD d_Maker_written := by unfold d_Maker_written; infer_instance
abbrev f_Maker_written_1 : Fn := posF 1 [] d_Maker_written
def b_show_kind : Env → MS := (seqS (setS 1 (op2 addD (cst (.str "kind ")) (fldE "Kind" "name" (var 0)))) (seqC (ifS (liftT (op2 isntD (fldE "Kind" "base" (var 0)) (cst .non))) (setS 1 (op2 addD (op2 addD (op2 addD (var 1) (cst (.str "("))) (fldE "Kind" "base" (var 0))) (cst (.str ")")))) nilS) (seqC (ifS (liftT (fldE "Kind" "own" (var 0))) (setS 1 (op2 addD (var 1) (cst (.str " own")))) nilS) (seqS (ifS (liftT (op2 isD (fldE "Kind" "begin" (var 0)) (cst .non))) (retS (lstE (argsC (var 1) argsN))) nilS) (seqS (ifS (liftT (fldE "Part" "guarded" (fldE "Kind" "begin" (var 0)))) (retS (lstE (argsC (var 1) (argsC (op2 addD (op2 addD (cst (.str "begin ")) (fldE "Part" "up" (fldE "Kind" "begin" (var 0)))) (cst (.str " guarded"))) argsN)))) nilS) (retS (lstE (argsC (var 1) (argsC (op2 addD (cst (.str "begin ")) (fldE "Part" "up" (fldE "Kind" "begin" (var 0)))) argsN)))))))))
instance : MB b_show_kind := by unfold b_show_kind; infer_instance
def d_show_kind : List D → M Ex D := defM 2 b_show_kind
instance : MD d_show_kind := by unfold d_show_kind; infer_instance
abbrev f_show_kind_1 : Fn := posF 1 [] d_show_kind
def b_show_family : Env → MS := (seqS (setS 1 (lstN argsN)) (seqS (forS (iterZ (argsC (cst cc_Maker_RULES) (argsC (methE "Maker" "written" f_Maker_written_1 (fldE "Family" "maker" (var 0)) argsN argsN) argsN))) (toTup 2 (toCons (toName 2) (toCons (toName 3) toNil))) (exprS (listM appF (var 1) (op2 addD (op2 addD (var 2) (cst (.str " "))) (var 3))))) (seqS (forS (iterT (fldE "Family" "kinds" (var 0))) (toName 4) (exprS (listM extF (var 1) (callE f_show_kind_1 (argsC (var 4) argsN) argsN)))) (retD [1] (m1 joinD (cst (.str "\n")) (var 1))))))
instance : MB b_show_family := by unfold b_show_family; infer_instance
def d_show_family : List D → M Ex D := defM 5 b_show_family
instance : MD d_show_family := by unfold d_show_family; infer_instance
abbrev f_show_family_1 : Fn := posF 1 [] d_show_family
def b_Kind_eq : Env → MS := (retS (andE (prim (isiD ownC) (argsC (var 1) (argsC (cst (.cls "Kind")) argsN))) (op2 eqD (methE "Kind" "row" f_Kind_row_1 (var 0) argsN argsN) (methE "Kind" "row" f_Kind_row_1 (var 1) argsN argsN))))
instance : MB b_Kind_eq := by unfold b_Kind_eq; infer_instance
def d_Kind_eq : List D → M Ex D := defM 2 b_Kind_eq
instance : MD d_Kind_eq := by unfold d_Kind_eq; infer_instance
abbrev f_Kind_eq_2 : Fn := posF 2 [] d_Kind_eq
def b_Maker_eq : Env → MS := (retS (andE (prim (isiD ownC) (argsC (var 1) (argsC (cst (.cls "Maker")) argsN))) (op2 eqD (methE "Maker" "written" f_Maker_written_1 (var 0) argsN argsN) (methE "Maker" "written" f_Maker_written_1 (var 1) argsN argsN))))
instance : MB b_Maker_eq := by unfold b_Maker_eq; infer_instance
def d_Maker_eq : List D → M Ex D := defM 2 b_Maker_eq
instance : MD d_Maker_eq := by unfold d_Maker_eq; infer_instance
abbrev f_Maker_eq_2 : Fn := posF 2 [] d_Maker_eq
def b_Family_eq : Env → MS := (retS (andE (prim (isiD ownC) (argsC (var 1) (argsC (cst (.cls "Family")) argsN))) (andE (op2M (ownM ownC "Maker" f_Maker_eq_2 false) (fldE "Family" "maker" (var 0)) (fldE "Family" "maker" (var 1))) (op2M (tupM ownC "Kind" f_Kind_eq_2 false) (fldE "Family" "kinds" (var 0)) (fldE "Family" "kinds" (var 1))))))
instance : MB b_Family_eq := by unfold b_Family_eq; infer_instance
def d_Family_eq : List D → M Ex D := defM 2 b_Family_eq
instance : MD d_Family_eq := by unfold d_Family_eq; infer_instance
abbrev f_Family_eq_2 : Fn := posF 2 [] d_Family_eq
def b_maker : Env → MS := (seqS (setS 1 (lcE (iterL (callE f_table_0 argsN argsN)) [2] (toName 2) yesT (op2 dgetD (var 0) (op2 ixD (var 2) (cst (.int 0)))) outF)) (retS (callE (mkM "Maker" f_Maker_init_1_place_key_store_stopped_fits_misfit_compare_unlike_unready_again freeze) argsN (argsC (op2 ixD (var 1) (cst (.int 0))) (argsC (op2 ixD (var 1) (cst (.int 1))) (argsC (op2 ixD (var 1) (cst (.int 2))) (argsC (op2 ixD (var 1) (cst (.int 3))) (argsC (op2 ixD (var 1) (cst (.int 4))) (argsC (op2 ixD (var 1) (cst (.int 5))) (argsC (op2 ixD (var 1) (cst (.int 6))) (argsC (op2 ixD (var 1) (cst (.int 7))) (argsC (op2 ixD (var 1) (cst (.int 8))) (argsC (op2 ixD (var 1) (cst (.int 9))) argsN)))))))))))))
instance : MB b_maker := by unfold b_maker; infer_instance
def d_maker : List D → M Ex D := defM 3 b_maker
instance : MD d_maker := by unfold d_maker; infer_instance
abbrev f_maker_1 : Fn := posF 1 [] d_maker
def b_family : Env → MS := (retS (callE (fun ds es => f_Family_of_3 (.cls "Family" :: ds) es) (argsC (callE f_maker_1 (argsC (var 0) argsN) argsN) (argsC (lcE (iterL (var 1)) [2] (toName 2) yesT (callE (fun ds es => f_Kind_of_2 (.cls "Kind" :: ds) es) (argsC (var 2) argsN) argsN) outF) argsN)) argsN))
instance : MB b_family := by unfold b_family; infer_instance
def d_family : List D → M Ex D := defM 3 b_family
instance : MD d_family := by unfold d_family; infer_instance
abbrev f_family_2 : Fn := posF 2 [] d_family
def b_law : Env → MS := (seqS (setS 1 (callE f_bag_1 (argsC (var 0) argsN) argsN)) (seqS (setS 2 (callE f_rules_1 (argsC (var 1) argsN) argsN)) (seqS (setS 3 (callE f_rows_2 (argsC (var 1) (argsC (op2 subD (callE f_many_1 (argsC (var 1) argsN) argsN) (callE f_draw_2 (argsC (var 1) (argsC (cst (.int 2)) argsN)) argsN)) argsN)) argsN)) (seqS (setS 4 (m1 joinD (cst (.str "\n")) (callE f_shown_2 (argsC (var 2) (argsC (var 3) argsN)) argsN))) (seqS (setS 5 (callE f_read_family_1 (argsC (var 4) argsN) argsN)) (seqS (ifS (liftT (op2 neD (lcE (iterL (prim listF (argsC (fldE "Family" "kinds" (var 5)) argsN))) [6] (toName 6) yesT (methE "Kind" "row" f_Kind_row_1 (var 6) argsN argsN) outF) (var 3))) (retS (cst (.bl false))) nilS) (seqS (ifS (liftT (op2 neD (methE "Maker" "written" f_Maker_written_1 (fldE "Family" "maker" (var 5)) argsN argsN) (prim tupleF (argsC (lcE (iterL (callE f_table_0 argsN argsN)) [7] (toName 7) yesT (op2 dgetD (var 2) (op2 ixD (var 7) (cst (.int 0)))) outF) argsN)))) (retS (cst (.bl false))) nilS) (retS (andE (op2M (ownM ownC "Family" f_Family_eq_2 false) (var 5) (callE f_family_2 (argsC (var 2) (argsC (var 3) argsN)) argsN)) (op2 eqD (callE f_show_family_1 (argsC (var 5) argsN) argsN) (var 4)))))))))))
instance : MB b_law := by unfold b_law; infer_instance
def d_law : List D → M Ex D := defM 8 b_law
instance : MD d_law := by unfold d_law; infer_instance
theorem put_Maker_0 {v0 : D} : putD "place" v0 ([] : List (Str × D)) = ([("place", v0)] : List (Str × D)) := rfl
theorem fld_Maker_place {v0 v1 v2 v3 v4 v5 v6 v7 v8 v9 : D} {s : S} : fldD "Maker" "place" (.ins "Maker" ["place", "key", "store", "stopped", "fits", "misfit", "compare", "unlike", "unready", "again"] [v0, v1, v2, v3, v4, v5, v6, v7, v8, v9]) s = some v0 := rfl
theorem put_Maker_1 {v0 v1 : D} : putD "key" v1 ([("place", v0)] : List (Str × D)) = ([("place", v0), ("key", v1)] : List (Str × D)) := rfl
theorem fld_Maker_key {v0 v1 v2 v3 v4 v5 v6 v7 v8 v9 : D} {s : S} : fldD "Maker" "key" (.ins "Maker" ["place", "key", "store", "stopped", "fits", "misfit", "compare", "unlike", "unready", "again"] [v0, v1, v2, v3, v4, v5, v6, v7, v8, v9]) s = some v1 := rfl
theorem put_Maker_2 {v0 v1 v2 : D} : putD "store" v2 ([("place", v0), ("key", v1)] : List (Str × D)) = ([("place", v0), ("key", v1), ("store", v2)] : List (Str × D)) := rfl
theorem fld_Maker_store {v0 v1 v2 v3 v4 v5 v6 v7 v8 v9 : D} {s : S} : fldD "Maker" "store" (.ins "Maker" ["place", "key", "store", "stopped", "fits", "misfit", "compare", "unlike", "unready", "again"] [v0, v1, v2, v3, v4, v5, v6, v7, v8, v9]) s = some v2 := rfl
theorem put_Maker_3 {v0 v1 v2 v3 : D} : putD "stopped" v3 ([("place", v0), ("key", v1), ("store", v2)] : List (Str × D)) = ([("place", v0), ("key", v1), ("store", v2), ("stopped", v3)] : List (Str × D)) := rfl
theorem fld_Maker_stopped {v0 v1 v2 v3 v4 v5 v6 v7 v8 v9 : D} {s : S} : fldD "Maker" "stopped" (.ins "Maker" ["place", "key", "store", "stopped", "fits", "misfit", "compare", "unlike", "unready", "again"] [v0, v1, v2, v3, v4, v5, v6, v7, v8, v9]) s = some v3 := rfl
theorem put_Maker_4 {v0 v1 v2 v3 v4 : D} : putD "fits" v4 ([("place", v0), ("key", v1), ("store", v2), ("stopped", v3)] : List (Str × D)) = ([("place", v0), ("key", v1), ("store", v2), ("stopped", v3), ("fits", v4)] : List (Str × D)) := rfl
theorem fld_Maker_fits {v0 v1 v2 v3 v4 v5 v6 v7 v8 v9 : D} {s : S} : fldD "Maker" "fits" (.ins "Maker" ["place", "key", "store", "stopped", "fits", "misfit", "compare", "unlike", "unready", "again"] [v0, v1, v2, v3, v4, v5, v6, v7, v8, v9]) s = some v4 := rfl
theorem put_Maker_5 {v0 v1 v2 v3 v4 v5 : D} : putD "misfit" v5 ([("place", v0), ("key", v1), ("store", v2), ("stopped", v3), ("fits", v4)] : List (Str × D)) = ([("place", v0), ("key", v1), ("store", v2), ("stopped", v3), ("fits", v4), ("misfit", v5)] : List (Str × D)) := rfl
theorem fld_Maker_misfit {v0 v1 v2 v3 v4 v5 v6 v7 v8 v9 : D} {s : S} : fldD "Maker" "misfit" (.ins "Maker" ["place", "key", "store", "stopped", "fits", "misfit", "compare", "unlike", "unready", "again"] [v0, v1, v2, v3, v4, v5, v6, v7, v8, v9]) s = some v5 := rfl
theorem put_Maker_6 {v0 v1 v2 v3 v4 v5 v6 : D} : putD "compare" v6 ([("place", v0), ("key", v1), ("store", v2), ("stopped", v3), ("fits", v4), ("misfit", v5)] : List (Str × D)) = ([("place", v0), ("key", v1), ("store", v2), ("stopped", v3), ("fits", v4), ("misfit", v5), ("compare", v6)] : List (Str × D)) := rfl
theorem fld_Maker_compare {v0 v1 v2 v3 v4 v5 v6 v7 v8 v9 : D} {s : S} : fldD "Maker" "compare" (.ins "Maker" ["place", "key", "store", "stopped", "fits", "misfit", "compare", "unlike", "unready", "again"] [v0, v1, v2, v3, v4, v5, v6, v7, v8, v9]) s = some v6 := rfl
theorem put_Maker_7 {v0 v1 v2 v3 v4 v5 v6 v7 : D} : putD "unlike" v7 ([("place", v0), ("key", v1), ("store", v2), ("stopped", v3), ("fits", v4), ("misfit", v5), ("compare", v6)] : List (Str × D)) = ([("place", v0), ("key", v1), ("store", v2), ("stopped", v3), ("fits", v4), ("misfit", v5), ("compare", v6), ("unlike", v7)] : List (Str × D)) := rfl
theorem fld_Maker_unlike {v0 v1 v2 v3 v4 v5 v6 v7 v8 v9 : D} {s : S} : fldD "Maker" "unlike" (.ins "Maker" ["place", "key", "store", "stopped", "fits", "misfit", "compare", "unlike", "unready", "again"] [v0, v1, v2, v3, v4, v5, v6, v7, v8, v9]) s = some v7 := rfl
theorem put_Maker_8 {v0 v1 v2 v3 v4 v5 v6 v7 v8 : D} : putD "unready" v8 ([("place", v0), ("key", v1), ("store", v2), ("stopped", v3), ("fits", v4), ("misfit", v5), ("compare", v6), ("unlike", v7)] : List (Str × D)) = ([("place", v0), ("key", v1), ("store", v2), ("stopped", v3), ("fits", v4), ("misfit", v5), ("compare", v6), ("unlike", v7), ("unready", v8)] : List (Str × D)) := rfl
theorem fld_Maker_unready {v0 v1 v2 v3 v4 v5 v6 v7 v8 v9 : D} {s : S} : fldD "Maker" "unready" (.ins "Maker" ["place", "key", "store", "stopped", "fits", "misfit", "compare", "unlike", "unready", "again"] [v0, v1, v2, v3, v4, v5, v6, v7, v8, v9]) s = some v8 := rfl
theorem put_Maker_9 {v0 v1 v2 v3 v4 v5 v6 v7 v8 v9 : D} : putD "again" v9 ([("place", v0), ("key", v1), ("store", v2), ("stopped", v3), ("fits", v4), ("misfit", v5), ("compare", v6), ("unlike", v7), ("unready", v8)] : List (Str × D)) = ([("place", v0), ("key", v1), ("store", v2), ("stopped", v3), ("fits", v4), ("misfit", v5), ("compare", v6), ("unlike", v7), ("unready", v8), ("again", v9)] : List (Str × D)) := rfl
theorem fld_Maker_again {v0 v1 v2 v3 v4 v5 v6 v7 v8 v9 : D} {s : S} : fldD "Maker" "again" (.ins "Maker" ["place", "key", "store", "stopped", "fits", "misfit", "compare", "unlike", "unready", "again"] [v0, v1, v2, v3, v4, v5, v6, v7, v8, v9]) s = some v9 := rfl
theorem fz_Maker {v0 v1 v2 v3 v4 v5 v6 v7 v8 v9 : D} {s : S} {a : Addr} {Q : D → S → Prop} {E : Ex → S → Prop} (h : s.map a = none) : freeze (.ref a) (s.set a (.ins "Maker" ([("place", v0), ("key", v1), ("store", v2), ("stopped", v3), ("fits", v4), ("misfit", v5), ("compare", v6), ("unlike", v7), ("unready", v8), ("again", v9)] : List (Str × D)))) Q E = Q (.ins "Maker" ["place", "key", "store", "stopped", "fits", "misfit", "compare", "unlike", "unready", "again"] [v0, v1, v2, v3, v4, v5, v6, v7, v8, v9]) s := by
  refine propext ⟨fun ⟨a2, o, x, e, h1, h2, h3⟩ => ?_, fun z => ⟨a, _, _, rfl, S.set_same, rfl, by rw [S.del_set h]; exact z⟩⟩
  cases e
  rw [S.set_same] at h1
  cases h1
  cases h2
  rw [S.del_set h] at h3
  exact h3
theorem iok_Maker_written {vs : List D} {s : S} : insOk "Maker" "written" (.ins "Maker" ["place", "key", "store", "stopped", "fits", "misfit", "compare", "unlike", "unready", "again"] vs) s = some () := rfl
theorem put_Kind_0 {v0 : D} : putD "name" v0 ([] : List (Str × D)) = ([("name", v0)] : List (Str × D)) := rfl
theorem fld_Kind_name {v0 v1 v2 v3 : D} {s : S} : fldD "Kind" "name" (.ins "Kind" ["name", "base", "own", "begin"] [v0, v1, v2, v3]) s = some v0 := rfl
theorem put_Kind_1 {v0 v1 : D} : putD "base" v1 ([("name", v0)] : List (Str × D)) = ([("name", v0), ("base", v1)] : List (Str × D)) := rfl
theorem fld_Kind_base {v0 v1 v2 v3 : D} {s : S} : fldD "Kind" "base" (.ins "Kind" ["name", "base", "own", "begin"] [v0, v1, v2, v3]) s = some v1 := rfl
theorem put_Kind_2 {v0 v1 v2 : D} : putD "own" v2 ([("name", v0), ("base", v1)] : List (Str × D)) = ([("name", v0), ("base", v1), ("own", v2)] : List (Str × D)) := rfl
theorem fld_Kind_own {v0 v1 v2 v3 : D} {s : S} : fldD "Kind" "own" (.ins "Kind" ["name", "base", "own", "begin"] [v0, v1, v2, v3]) s = some v2 := rfl
theorem put_Kind_3 {v0 v1 v2 v3 : D} : putD "begin" v3 ([("name", v0), ("base", v1), ("own", v2)] : List (Str × D)) = ([("name", v0), ("base", v1), ("own", v2), ("begin", v3)] : List (Str × D)) := rfl
theorem fld_Kind_begin {v0 v1 v2 v3 : D} {s : S} : fldD "Kind" "begin" (.ins "Kind" ["name", "base", "own", "begin"] [v0, v1, v2, v3]) s = some v3 := rfl
theorem fz_Kind {v0 v1 v2 v3 : D} {s : S} {a : Addr} {Q : D → S → Prop} {E : Ex → S → Prop} (h : s.map a = none) : freeze (.ref a) (s.set a (.ins "Kind" ([("name", v0), ("base", v1), ("own", v2), ("begin", v3)] : List (Str × D)))) Q E = Q (.ins "Kind" ["name", "base", "own", "begin"] [v0, v1, v2, v3]) s := by
  refine propext ⟨fun ⟨a2, o, x, e, h1, h2, h3⟩ => ?_, fun z => ⟨a, _, _, rfl, S.set_same, rfl, by rw [S.del_set h]; exact z⟩⟩
  cases e
  rw [S.set_same] at h1
  cases h1
  cases h2
  rw [S.del_set h] at h3
  exact h3
theorem iok_Kind_row {vs : List D} {s : S} : insOk "Kind" "row" (.ins "Kind" ["name", "base", "own", "begin"] vs) s = some () := rfl
theorem put_Part_0 {v0 : D} : putD "up" v0 ([] : List (Str × D)) = ([("up", v0)] : List (Str × D)) := rfl
theorem fld_Part_up {v0 v1 : D} {s : S} : fldD "Part" "up" (.ins "Part" ["up", "guarded"] [v0, v1]) s = some v0 := rfl
theorem put_Part_1 {v0 v1 : D} : putD "guarded" v1 ([("up", v0)] : List (Str × D)) = ([("up", v0), ("guarded", v1)] : List (Str × D)) := rfl
theorem fld_Part_guarded {v0 v1 : D} {s : S} : fldD "Part" "guarded" (.ins "Part" ["up", "guarded"] [v0, v1]) s = some v1 := rfl
theorem fz_Part {v0 v1 : D} {s : S} {a : Addr} {Q : D → S → Prop} {E : Ex → S → Prop} (h : s.map a = none) : freeze (.ref a) (s.set a (.ins "Part" ([("up", v0), ("guarded", v1)] : List (Str × D)))) Q E = Q (.ins "Part" ["up", "guarded"] [v0, v1]) s := by
  refine propext ⟨fun ⟨a2, o, x, e, h1, h2, h3⟩ => ?_, fun z => ⟨a, _, _, rfl, S.set_same, rfl, by rw [S.del_set h]; exact z⟩⟩
  cases e
  rw [S.set_same] at h1
  cases h1
  cases h2
  rw [S.del_set h] at h3
  exact h3
theorem put_Family_0 {v0 : D} : putD "maker" v0 ([] : List (Str × D)) = ([("maker", v0)] : List (Str × D)) := rfl
theorem fld_Family_maker {v0 v1 : D} {s : S} : fldD "Family" "maker" (.ins "Family" ["maker", "kinds"] [v0, v1]) s = some v0 := rfl
theorem put_Family_1 {v0 v1 : D} : putD "kinds" v1 ([("maker", v0)] : List (Str × D)) = ([("maker", v0), ("kinds", v1)] : List (Str × D)) := rfl
theorem fld_Family_kinds {v0 v1 : D} {s : S} : fldD "Family" "kinds" (.ins "Family" ["maker", "kinds"] [v0, v1]) s = some v1 := rfl
theorem fz_Family {v0 v1 : D} {s : S} {a : Addr} {Q : D → S → Prop} {E : Ex → S → Prop} (h : s.map a = none) : freeze (.ref a) (s.set a (.ins "Family" ([("maker", v0), ("kinds", v1)] : List (Str × D)))) Q E = Q (.ins "Family" ["maker", "kinds"] [v0, v1]) s := by
  refine propext ⟨fun ⟨a2, o, x, e, h1, h2, h3⟩ => ?_, fun z => ⟨a, _, _, rfl, S.set_same, rfl, by rw [S.del_set h]; exact z⟩⟩
  cases e
  rw [S.set_same] at h1
  cases h1
  cases h2
  rw [S.del_set h] at h3
  exact h3
theorem xg_Kind_init_3_own {v0 v1 v2 d0 m0 z0 : D} : g_Kind_init_3_own [v0, v1, v2] [d0] [m0] [z0] = [v0, v1, v2, z0, m0] := rfl
theorem xg_Kind_init_3_own_begin {v0 v1 v2 d0 z0 z1 : D} : g_Kind_init_3_own_begin [v0, v1, v2] [d0] [] [z0, z1] = [v0, v1, v2, z0, z1] := rfl
theorem xg_Part_init_2_guarded {v0 v1 d0 z0 : D} : g_Part_init_2_guarded [v0, v1] [d0] [] [z0] = [v0, v1, z0] := rfl
theorem xg_Maker_init_1_place_key_store_stopped_fits_misfit_compare_unlike_unready_again {v0 z0 z1 z2 z3 z4 z5 z6 z7 z8 z9 : D} : g_Maker_init_1_place_key_store_stopped_fits_misfit_compare_unlike_unready_again [v0] [] [] [z0, z1, z2, z3, z4, z5, z6, z7, z8, z9] = [v0, z0, z1, z2, z3, z4, z5, z6, z7, z8, z9] := rfl
end DL
namespace DL
def runs_mir := And.intro @put_Maker_0 (And.intro @fld_Maker_place (And.intro @put_Maker_1 (And.intro @fld_Maker_key (And.intro @put_Maker_2 (And.intro @fld_Maker_store (And.intro @put_Maker_3 (And.intro @fld_Maker_stopped (And.intro @put_Maker_4 (And.intro @fld_Maker_fits (And.intro @put_Maker_5 (And.intro @fld_Maker_misfit (And.intro @put_Maker_6 (And.intro @fld_Maker_compare (And.intro @put_Maker_7 (And.intro @fld_Maker_unlike (And.intro @put_Maker_8 (And.intro @fld_Maker_unready (And.intro @put_Maker_9 (And.intro @fld_Maker_again (And.intro @fz_Maker (And.intro @iok_Maker_written (And.intro @put_Kind_0 (And.intro @fld_Kind_name (And.intro @put_Kind_1 (And.intro @fld_Kind_base (And.intro @put_Kind_2 (And.intro @fld_Kind_own (And.intro @put_Kind_3 (And.intro @fld_Kind_begin (And.intro @fz_Kind (And.intro @iok_Kind_row (And.intro @put_Part_0 (And.intro @fld_Part_up (And.intro @put_Part_1 (And.intro @fld_Part_guarded (And.intro @fz_Part (And.intro @put_Family_0 (And.intro @fld_Family_maker (And.intro @put_Family_1 (And.intro @fld_Family_kinds (And.intro @fz_Family (And.intro @xg_Kind_init_3_own (And.intro @xg_Kind_init_3_own_begin (And.intro @xg_Part_init_2_guarded (@xg_Maker_init_1_place_key_store_stopped_fits_misfit_compare_unlike_unready_again)))))))))))))))))))))))))))))))))))))))))))))
end DL
namespace DL
open PySem L2
def letters : List Nat := ("abcdefghijklmnopqrstuvwxyz" : Str).cps.toList
def isName (z : Str) : Bool := decide (1 ≤ z.length ∧ z.length ≤ 8) && z.cps.toList.all fun c => decide (c ∈ letters)
def isNameD : D → Bool
  | .str z => isName z
  | _ => false
def flat : D → Bool
  | .non => true
  | .bl _ => true
  | .int _ => true
  | .str z => decide (z.length ≤ sizeLine)
  | .tup _ => true
  | .lst _ => true
  | _ => false
theorem isName_iff {z : Str} : isName z = true ↔ (1 ≤ z.length ∧ z.length ≤ 8) ∧ ∀ c ∈ z.cps.toList, c ∈ letters := by
  unfold isName
  rw [Bool.and_eq_true, List.all_eq_true]
  simp only [decide_eq_true_eq]
theorem notIn_sign {c : Nat} {z : Str} {s : S} : notInD (.str ⟨#[c]⟩) (.str z) s = some (.bl (!decide (c ∈ z.cps.toList))) := rfl
theorem loop_letters {QF : Fl → S → Prop} {EE : Ex × Env → S → Prop} {x : D} {s : S} : ∀ (cs : List Nat) (o : Option D),
    (∀ o, (cs.all fun c => decide (c ∈ letters)) = true → QF (.nx [some x, o]) s) → ((cs.all fun c => decide (c ∈ letters)) = false → QF (.rt (.bl false)) s) →
    loopS (fun _ => True) (toName 1) (ifS (liftT (op2 notInD (var 1) (cst (.str "abcdefghijklmnopqrstuvwxyz")))) (retS (cst (.bl false))) nilS) (cs.map fun c => D.str ⟨#[c]⟩) [some x, o] s QF EE
  | [], o, h1, _ => ⟨trivial, h1 o rfl⟩
  | c :: cs, o, h1, h2 => by
    rw [List.map_cons, x_loop_cons]
    refine ⟨trivial, _, rfl, ?_⟩
    simp -implicitDefEqProofs only [word_snoc, DL.runs_D14, DL.runs_D15, DL.runs_D16, DL.runs_D17, DL.runs_D19, DL.runs_D20, DL.runs_D23, DL.runs_D24, DL.runs_D25, DL.runs_D26, DL.runs_D31, DL.runs_D34, DL.runs_D36, DL.runs_mir, notIn_sign]
    by_cases e : c ∈ letters
    · have e' : decide (c ∈ (Str.ofString "abcdefghijklmnopqrstuvwxyz").cps.toList) = true := decide_eq_true e
      rw [e', e_notT, selB_f]
      refine loop_letters cs _ (fun o h => h1 o ?_) fun h => h2 ?_
      · rw [List.all_cons, decide_eq_true e, h]; rfl
      · rw [List.all_cons, decide_eq_true e, h]; rfl
    · have e' : decide (c ∈ (Str.ofString "abcdefghijklmnopqrstuvwxyz").cps.toList) = false := decide_eq_false e
      rw [e', e_notF, selB_t]
      exact h2 (by rw [List.all_cons, decide_eq_false e]; rfl)
theorem is_name_wp {d : D} {s : S} {Q : D → S → Prop} {E : Ex → S → Prop} (hf : flat d = true) (q : Q (.bl (isNameD d)) s) : d_is_name [d] s Q E := by
  unfold d_is_name b_is_name
  cases d with
  | str z =>
    have hz : z.length ≤ sizeLine := of_decide_eq_true hf
    simp -implicitDefEqProofs only [word_snoc, DL.runs_D14, DL.runs_D15, DL.runs_D16, DL.runs_D17, DL.runs_D19, DL.runs_D20, DL.runs_D23, DL.runs_D24, DL.runs_D25, DL.runs_D26, DL.runs_D31, DL.runs_D34, DL.runs_D36, DL.runs_mir, Nat.reduceSub, Nat.reduceAdd, len_str hz]
    have hs : strSrc (.str z) = some ⟨signs z, fun _ => True⟩ := if_pos hz
    replace q : Q (.bl (isName z)) s := q
    simp -implicitDefEqProofs only [hs, word_snoc, DL.runs_D14, DL.runs_D15, DL.runs_D16, DL.runs_D17, DL.runs_D19, DL.runs_D20, DL.runs_D23, DL.runs_D24, DL.runs_D25, DL.runs_D26, DL.runs_D31, DL.runs_D34, DL.runs_D36, DL.runs_mir]
    by_cases h1 : (1 : Int) ≤ (z.length : Int)
    · rw [decide_eq_true h1, selB_t]
      by_cases h2 : (z.length : Int) ≤ 8
      · rw [decide_eq_true h2]
        simp -implicitDefEqProofs only [word_snoc, DL.runs_D14, DL.runs_D15, DL.runs_D16, DL.runs_D17, DL.runs_D19, DL.runs_D20, DL.runs_D23, DL.runs_D24, DL.runs_D25, DL.runs_D26, DL.runs_D31, DL.runs_D34, DL.runs_D36, DL.runs_mir]
        refine loop_letters _ _ (fun o h => ?_) fun h => ?_
        · simp -implicitDefEqProofs only [word_snoc, DL.runs_D14, DL.runs_D15, DL.runs_D16, DL.runs_D17, DL.runs_D19, DL.runs_D20, DL.runs_D23, DL.runs_D24, DL.runs_D25, DL.runs_D26, DL.runs_D31, DL.runs_D34, DL.runs_D36, DL.runs_mir]
          have e : isName z = true := isName_iff.mpr ⟨by omega, fun c hc => of_decide_eq_true (List.all_eq_true.mp h c hc)⟩
          rw [e] at q; exact q
        · simp -implicitDefEqProofs only [word_snoc, DL.runs_D14, DL.runs_D15, DL.runs_D16, DL.runs_D17, DL.runs_D19, DL.runs_D20, DL.runs_D23, DL.runs_D24, DL.runs_D25, DL.runs_D26, DL.runs_D31, DL.runs_D34, DL.runs_D36, DL.runs_mir]
          have e : isName z = false := by unfold isName; rw [h, Bool.and_false]
          rw [e] at q; exact q
      · rw [decide_eq_false h2]
        simp -implicitDefEqProofs only [word_snoc, DL.runs_D14, DL.runs_D15, DL.runs_D16, DL.runs_D17, DL.runs_D19, DL.runs_D20, DL.runs_D23, DL.runs_D24, DL.runs_D25, DL.runs_D26, DL.runs_D31, DL.runs_D34, DL.runs_D36, DL.runs_mir]
        have e : isName z = false := by unfold isName; rw [decide_eq_false (by omega)]; rfl
        rw [e] at q; exact q
    · rw [decide_eq_false h1, selB_f]
      have e : isName z = false := by unfold isName; rw [decide_eq_false (by omega)]; rfl
      rw [e] at q; exact q
  | non => simp -implicitDefEqProofs only [word_snoc, DL.runs_D14, DL.runs_D15, DL.runs_D16, DL.runs_D17, DL.runs_D19, DL.runs_D20, DL.runs_D23, DL.runs_D24, DL.runs_D25, DL.runs_D26, DL.runs_D31, DL.runs_D34, DL.runs_D36, DL.runs_mir, Nat.reduceSub, Nat.reduceAdd]; exact q
  | bl b => simp -implicitDefEqProofs only [word_snoc, DL.runs_D14, DL.runs_D15, DL.runs_D16, DL.runs_D17, DL.runs_D19, DL.runs_D20, DL.runs_D23, DL.runs_D24, DL.runs_D25, DL.runs_D26, DL.runs_D31, DL.runs_D34, DL.runs_D36, DL.runs_mir, Nat.reduceSub, Nat.reduceAdd]; exact q
  | int b => simp -implicitDefEqProofs only [word_snoc, DL.runs_D14, DL.runs_D15, DL.runs_D16, DL.runs_D17, DL.runs_D19, DL.runs_D20, DL.runs_D23, DL.runs_D24, DL.runs_D25, DL.runs_D26, DL.runs_D31, DL.runs_D34, DL.runs_D36, DL.runs_mir, Nat.reduceSub, Nat.reduceAdd]; exact q
  | tup b => simp -implicitDefEqProofs only [word_snoc, DL.runs_D14, DL.runs_D15, DL.runs_D16, DL.runs_D17, DL.runs_D19, DL.runs_D20, DL.runs_D23, DL.runs_D24, DL.runs_D25, DL.runs_D26, DL.runs_D31, DL.runs_D34, DL.runs_D36, DL.runs_mir, Nat.reduceSub, Nat.reduceAdd]; exact q
  | lst b => simp -implicitDefEqProofs only [word_snoc, DL.runs_D14, DL.runs_D15, DL.runs_D16, DL.runs_D17, DL.runs_D19, DL.runs_D20, DL.runs_D23, DL.runs_D24, DL.runs_D25, DL.runs_D26, DL.runs_D31, DL.runs_D34, DL.runs_D36, DL.runs_mir, Nat.reduceSub, Nat.reduceAdd]; exact q
  | _ => cases hf
theorem letters26 : letters.length = 26 := by decide +kernel
theorem abc_len : ("abcdefghijklmnopqrstuvwxyz" : Str).length ≤ sizeLine := by decide +kernel
theorem ix_letter {s : S} {v : Int} (h0 : 0 ≤ v) (h1 : v < 26) : ∃ c, c ∈ letters ∧ ixD (.str "abcdefghijklmnopqrstuvwxyz") (.int v) s = some (.str ⟨#[c]⟩) := by
  obtain ⟨c, h2, h3⟩ := atI_pos (xs := letters) h0 (by rw [letters26]; exact h1)
  exact ⟨c, h3, ix_str abc_len h2⟩
def sg (c : Nat) : Str := ⟨#[c]⟩
theorem join_signs : ∀ cs : List Nat, (Txt.join ("" : Str) (cs.map sg)).cps.toList = cs := fun cs => by
  rw [TL.join_eq]
  show TL.tl (Str.join ("" : Str) (cs.map sg)) = cs
  rw [TL.tl_join]
  have e : TL.tl ("" : Str) = [] := by decide +kernel
  rw [e, List.map_map]
  induction cs with
  | nil => rfl
  | cons c r ih =>
    cases r with
    | nil => rfl
    | cons d r =>
      show TL.tl (sg c) ++ ([] ++ TL.joinL [] ((d :: r).map (TL.tl ∘ sg))) = c :: d :: r
      rw [ih]
      rfl
theorem len_list (z : Str) : z.length = z.cps.toList.length := by
  show z.cps.size = _
  simp
theorem strsOf_map : ∀ ys : List Str, strsOf (ys.map .str) = some ys
  | [] => rfl
  | y :: ys => by show (strsOf (ys.map .str)).map (fun r => y :: r) = _; rw [strsOf_map ys]; rfl
theorem join_lst {z : Str} {ys : List Str} {s : S} (h : (ys.map (·.length)).sum + ys.length * z.length ≤ 16777216) : joinD (.str z) (.lst (ys.map .str)) s = some (.str (Txt.join z ys)) := by
  show ((some (ys.map D.str)).bind fun ds => (strsOf ds).bind fun ys => if (ys.map (·.length)).sum + ys.length * z.length ≤ 16777216 then some (D.str (Txt.join z ys)) else none) = _
  rw [Option.bind_some, strsOf_map, Option.bind_some, if_pos h]
theorem sum_sg (cs : List Nat) : ((cs.map sg).map (·.length)).sum = cs.length := by
  induction cs with
  | nil => rfl
  | cons c r ih => simp only [List.map_cons, List.sum_cons, List.length_cons, ih]; show 1 + r.length = _; omega
theorem range1_nat {n : Int} (h0 : 0 ≤ n) (h1 : n ≤ 1000000) : range1 [.int n] = some ⟨intsD 0 n.toNat, fun _ => True⟩ := if_pos ⟨h1, by omega⟩
theorem word_wp {b c : Addr} {s : S} {Q : D → S → Prop} {E : Ex → S → Prop} (hb : s.map b = some (.bag c)) (q : ∀ z, isName z = true → Q (.str z) s) : d_word [.ref b] s Q E := by
  unfold d_word b_word
  simp -implicitDefEqProofs only [word_snoc, DL.runs_D14, DL.runs_D15, DL.runs_D16, DL.runs_D17, DL.runs_D19, DL.runs_D20, DL.runs_D23, DL.runs_D24, DL.runs_D25, DL.runs_D26, DL.runs_D31, DL.runs_D34, DL.runs_D36, DL.runs_mir, Nat.reduceSub, Nat.reduceAdd]
  refine draw_wp hb (by decide) (by decide) fun m m0 m1 => ?_
  simp -implicitDefEqProofs only [word_snoc, DL.runs_D14, DL.runs_D15, DL.runs_D16, DL.runs_D17, DL.runs_D19, DL.runs_D20, DL.runs_D23, DL.runs_D24, DL.runs_D25, DL.runs_D26, DL.runs_D31, DL.runs_D34, DL.runs_D36, DL.runs_mir, range1_nat (show 0 ≤ 1 + m by omega) (by omega)]
  refine lc_inv (fun ds acc s' => s' = s ∧ ∃ cs : List Nat, (∀ c ∈ cs, c ∈ letters) ∧ acc = (cs.map sg).map .str ∧ cs.length + ds.length = (1 + m).toNat) _ _ _ ⟨rfl, [], (fun _ h => by cases h), rfl, by rw [ints_len]; simp⟩ ?_ ?_
  · rintro d ds acc s' ⟨rfl, cs, h1, rfl, h2⟩
    refine ⟨trivial, _, rfl, ?_⟩
    simp -implicitDefEqProofs only [word_snoc, DL.runs_D14, DL.runs_D15, DL.runs_D16, DL.runs_D17, DL.runs_D19, DL.runs_D20, DL.runs_D23, DL.runs_D24, DL.runs_D25, DL.runs_D26, DL.runs_D31, DL.runs_D34, DL.runs_D36, DL.runs_mir]
    refine draw_wp hb (by decide) (by decide) fun v v0 v1 => ?_
    obtain ⟨c, h3, h4⟩ := ix_letter (s := s') v0 v1
    simp -implicitDefEqProofs only [h4, word_snoc, DL.runs_D14, DL.runs_D15, DL.runs_D16, DL.runs_D17, DL.runs_D19, DL.runs_D20, DL.runs_D23, DL.runs_D24, DL.runs_D25, DL.runs_D26, DL.runs_D31, DL.runs_D34, DL.runs_D36, DL.runs_mir]
    refine ⟨cs ++ [c], ?_, by simp [sg], by simp at h2 ⊢; omega⟩
    intro x hx
    rcases List.mem_append.mp hx with q | q
    · exact h1 x q
    · rw [List.mem_singleton.mp q]; exact h3
  · rintro acc s' ⟨rfl, cs, h1, rfl, h2⟩
    refine ⟨trivial, ?_⟩
    have hj : ((cs.map sg).map (·.length)).sum + (cs.map sg).length * ("" : Str).length ≤ 16777216 := by
      rw [sum_sg]
      show cs.length + (cs.map sg).length * 0 ≤ 16777216
      simp at h2
      omega
    simp -implicitDefEqProofs only [word_snoc, DL.runs_D14, DL.runs_D15, DL.runs_D16, DL.runs_D17, DL.runs_D19, DL.runs_D20, DL.runs_D23, DL.runs_D24, DL.runs_D25, DL.runs_D26, DL.runs_D31, DL.runs_D34, DL.runs_D36, DL.runs_mir, join_lst hj]
    refine q _ ?_
    rw [isName_iff, len_list, join_signs]
    simp at h2
    exact ⟨by omega, h1⟩
theorem name1 {c : Nat} (h : c ∈ letters) : isName (sg c) = true := isName_iff.mpr ⟨⟨by show 1 ≤ 1; decide, by show 1 ≤ 8; decide⟩, fun x hx => by
  have : x = c := by simpa [sg] using hx
  rw [this]; exact h⟩
theorem str_app (a b : Str) : (a ++ b).cps.toList = a.cps.toList ++ b.cps.toList := by
  show (a.cps ++ b.cps).toList = _
  simp
theorem name2 {c d : Nat} (h : c ∈ letters) (k : d ∈ letters) : isName (sg c ++ sg d) = true := by
  rw [isName_iff, len_list, str_app]
  refine ⟨⟨by simp [sg], by simp [sg]⟩, fun x hx => ?_⟩
  rcases List.mem_append.mp hx with q | q
  · have : x = c := by simpa [sg] using q
    rw [this]; exact h
  · have : x = d := by simpa [sg] using q
    rw [this]; exact k
theorem sg_add {c d : Nat} {s : S} : addD (.str ⟨#[c]⟩) (.str ⟨#[d]⟩) s = some (.str (sg c ++ sg d)) := add_str (by show 1 + 1 ≤ sizeLine; decide)
end DL
namespace DL
open PySem L2
theorem short_wp {b c : Addr} {s : S} {Q : D → S → Prop} {E : Ex → S → Prop} (hb : s.map b = some (.bag c)) (q : ∀ z, isName z = true → Q (.str z) s) : d_short [.ref b] s Q E := by
  unfold d_short b_short
  simp -implicitDefEqProofs only [x_seqC, word_snoc, DL.runs_D14, DL.runs_D15, DL.runs_D16, DL.runs_D17, DL.runs_D19, DL.runs_D20, DL.runs_D23, DL.runs_D24, DL.runs_D25, DL.runs_D26, DL.runs_D31, DL.runs_D34, DL.runs_D36, DL.runs_mir, Nat.reduceSub, Nat.reduceAdd]
  refine draw_wp hb (by decide) (by decide) fun v v0 v1 => ?_
  obtain ⟨x, h3, h4⟩ := ix_letter (s := s) v0 v1
  simp -implicitDefEqProofs only [x_seqC, h4, word_snoc, DL.runs_D14, DL.runs_D15, DL.runs_D16, DL.runs_D17, DL.runs_D19, DL.runs_D20, DL.runs_D23, DL.runs_D24, DL.runs_D25, DL.runs_D26, DL.runs_D31, DL.runs_D34, DL.runs_D36, DL.runs_mir]
  refine draw_wp hb (by decide) (by decide) fun k k0 k1 => ?_
  simp -implicitDefEqProofs only [x_seqC, word_snoc, DL.runs_D14, DL.runs_D15, DL.runs_D16, DL.runs_D17, DL.runs_D19, DL.runs_D20, DL.runs_D23, DL.runs_D24, DL.runs_D25, DL.runs_D26, DL.runs_D31, DL.runs_D34, DL.runs_D36, DL.runs_mir]
  refine selB_of (fun _ => ?_) (fun _ => ?_)
  · refine draw_wp hb (by decide) (by decide) fun v v0 v1 => ?_
    obtain ⟨y, h5, h6⟩ := ix_letter (s := s) v0 v1
    simp only [x_seqC, h6, sg_add, word_snoc, DL.runs_D14, DL.runs_D15, DL.runs_D16, DL.runs_D17, DL.runs_D19, DL.runs_D20, DL.runs_D23, DL.runs_D24, DL.runs_D25, DL.runs_D26, DL.runs_D31, DL.runs_D34, DL.runs_D36, DL.runs_mir]
    refine draw_wp hb (by decide) (by decide) fun k k0 k1 => ?_
    simp -implicitDefEqProofs only [x_seqC, word_snoc, DL.runs_D14, DL.runs_D15, DL.runs_D16, DL.runs_D17, DL.runs_D19, DL.runs_D20, DL.runs_D23, DL.runs_D24, DL.runs_D25, DL.runs_D26, DL.runs_D31, DL.runs_D34, DL.runs_D36, DL.runs_mir]
    exact selB_of (fun _ => word_wp hb q) (fun _ => q _ (name2 h3 h5))
  · refine draw_wp hb (by decide) (by decide) fun k k0 k1 => ?_
    simp -implicitDefEqProofs only [x_seqC, word_snoc, DL.runs_D14, DL.runs_D15, DL.runs_D16, DL.runs_D17, DL.runs_D19, DL.runs_D20, DL.runs_D23, DL.runs_D24, DL.runs_D25, DL.runs_D26, DL.runs_D31, DL.runs_D34, DL.runs_D36, DL.runs_mir]
    exact selB_of (fun _ => word_wp hb q) (fun _ => q _ (name1 h3))
end DL
namespace DL
open PySem L2
section
variable {ρ : Env} {s : S} {E : Ex → S → Prop} {EE : Ex × Env → S → Prop} {Q : D → S → Prop} {QU : Unit → S → Prop} {QF : Fl → S → Prop} {a : Addr} {c f : Str} {fs : List (Str × D)} {v d : D} {ds es : List D}
theorem x_setFld : setFld c f (.ref a) v (s.set a (.ins c fs)) QU EE = (fs.length < 900 ∧ QU () (s.set a (.ins c (putD f v fs)))) := by
  refine propext ⟨fun ⟨a', fs', e, h1, h2, h3⟩ => ?_, fun ⟨h1, h2⟩ => ⟨a, fs, rfl, S.set_same, h1, by rw [S.set_set]; exact h2⟩⟩
  cases e
  rw [S.set_same] at h1
  cases h1
  rw [S.set_set] at h3
  exact ⟨h2, h3⟩
theorem x_starF {n : Nat} {m : List D → M Ex D} (h1 : n ≤ ds.length) (h2 : ds.length ≤ n + sizeLine) : starF n m ds [] s Q E = m (ds.take n ++ [.tup (ds.drop n)]) s Q E := by
  show (if n ≤ ds.length ∧ ds.length ≤ n + sizeLine then m (ds.take n ++ [.tup (ds.drop n)]) else failM) s Q E = _
  rw [if_pos ⟨h1, h2⟩]
end
structure KD where
  name : Str
  base : Option Str
  own : Bool
  beg : Option (Str × Bool)
deriving DecidableEq
def oStr : Option Str → D
  | none => .non
  | some z => .str z
def begD : Option (Str × Bool) → D
  | none => .non
  | some p => .tup [.str p.1, .bl p.2]
def beginD : Option (Str × Bool) → D
  | none => .non
  | some p => .ins "Part" ["up", "guarded"] [.str p.1, .bl p.2]
def KD.row (k : KD) : D := .tup [.str k.name, oStr k.base, .bl k.own, begD k.beg]
def KD.ins (k : KD) : D := .ins "Kind" ["name", "base", "own", "begin"] [.str k.name, oStr k.base, .bl k.own, beginD k.beg]
def upsL : List Str := ["first", "last", "alone"]
structure KD.Good (k : KD) : Prop where
  name : isName k.name = true
  base : ∀ b, k.base = some b → isName b = true
  beg : ∀ p, k.beg = some p → p.1 ∈ upsL
def isUpD : D → Bool
  | .str z => decide (z ∈ upsL)
  | _ => false
theorem inB_strs {z : Str} {s : S} : ∀ {cs : List Str}, inD (.str z) (.tup (cs.map .str)) s = some (.bl (decide (z ∈ cs))) := by
  intro cs
  have e1 : scalsV (cs.map D.str) = some (cs.map V.str) := by
    induction cs with
    | nil => rfl
    | cons c r ih => rw [List.map_cons, List.map_cons]; unfold scalsV; rw [ih]; rfl
  have e2 : inB s (.str z) (.tup (cs.map .str)) = some (inV (.str z) (cs.map V.str)) := by
    show (some (V.str z)).bind (fun v => (some (cs.map D.str)).bind fun ds => (scalsV ds).map fun vs => inV v vs) = _
    rw [Option.bind_some, Option.bind_some, e1]; rfl
  show (inB s (.str z) (.tup (cs.map .str))).map D.bl = _
  rw [e2, Option.map_some]
  have e3 : inV (.str z) (cs.map V.str) = decide (z ∈ cs) := by
    unfold inV
    clear e1 e2
    induction cs with
    | nil => simp
    | cons c r ih =>
      rw [List.map_cons, List.any_cons, ih]
      have e : eqV (.str c) (.str z) = decide (c = z) := rfl
      rw [e]
      by_cases h : c = z
      · subst h; simp
      · have h' : ¬ z = c := fun e => h e.symm
        simp [h, h']
  rw [e3]
theorem is_up_wp {d : D} {s : S} {Q : D → S → Prop} {E : Ex → S → Prop} (hf : flat d = true) (q : Q (.bl (isUpD d)) s) : d_is_up [d] s Q E := by
  unfold d_is_up b_is_up
  cases d with
  | str z =>
    simp -implicitDefEqProofs only [word_snoc, DL.runs_D14, DL.runs_D15, DL.runs_D16, DL.runs_D17, DL.runs_D19, DL.runs_D20, DL.runs_D23, DL.runs_D24, DL.runs_D25, DL.runs_D26, DL.runs_D31, DL.runs_D34, DL.runs_D36, DL.runs_mir, x_setFld, Nat.reduceSub, Nat.reduceAdd]
    have e : inD (.str z) c_UPS s = some (.bl (decide (z ∈ upsL))) := inB_strs (cs := upsL)
    simp -implicitDefEqProofs only [e, word_snoc, DL.runs_D14, DL.runs_D15, DL.runs_D16, DL.runs_D17, DL.runs_D19, DL.runs_D20, DL.runs_D23, DL.runs_D24, DL.runs_D25, DL.runs_D26, DL.runs_D31, DL.runs_D34, DL.runs_D36, DL.runs_mir, x_setFld]
    exact q
  | non => simp -implicitDefEqProofs only [word_snoc, DL.runs_D14, DL.runs_D15, DL.runs_D16, DL.runs_D17, DL.runs_D19, DL.runs_D20, DL.runs_D23, DL.runs_D24, DL.runs_D25, DL.runs_D26, DL.runs_D31, DL.runs_D34, DL.runs_D36, DL.runs_mir, x_setFld, Nat.reduceSub, Nat.reduceAdd]; exact q
  | bl b => simp -implicitDefEqProofs only [word_snoc, DL.runs_D14, DL.runs_D15, DL.runs_D16, DL.runs_D17, DL.runs_D19, DL.runs_D20, DL.runs_D23, DL.runs_D24, DL.runs_D25, DL.runs_D26, DL.runs_D31, DL.runs_D34, DL.runs_D36, DL.runs_mir, x_setFld, Nat.reduceSub, Nat.reduceAdd]; exact q
  | int b => simp -implicitDefEqProofs only [word_snoc, DL.runs_D14, DL.runs_D15, DL.runs_D16, DL.runs_D17, DL.runs_D19, DL.runs_D20, DL.runs_D23, DL.runs_D24, DL.runs_D25, DL.runs_D26, DL.runs_D31, DL.runs_D34, DL.runs_D36, DL.runs_mir, x_setFld, Nat.reduceSub, Nat.reduceAdd]; exact q
  | tup b => simp -implicitDefEqProofs only [word_snoc, DL.runs_D14, DL.runs_D15, DL.runs_D16, DL.runs_D17, DL.runs_D19, DL.runs_D20, DL.runs_D23, DL.runs_D24, DL.runs_D25, DL.runs_D26, DL.runs_D31, DL.runs_D34, DL.runs_D36, DL.runs_mir, x_setFld, Nat.reduceSub, Nat.reduceAdd]; exact q
  | lst b => simp -implicitDefEqProofs only [word_snoc, DL.runs_D14, DL.runs_D15, DL.runs_D16, DL.runs_D17, DL.runs_D19, DL.runs_D20, DL.runs_D23, DL.runs_D24, DL.runs_D25, DL.runs_D26, DL.runs_D31, DL.runs_D34, DL.runs_D36, DL.runs_mir, x_setFld, Nat.reduceSub, Nat.reduceAdd]; exact q
  | _ => cases hf
theorem flat_name {z : Str} (h : isName z = true) : flat (.str z) = true := by
  have := (isName_iff.mp h).1.2
  show decide (z.length ≤ sizeLine) = true
  exact decide_eq_true (Nat.le_trans this (by decide))
theorem up_len : ∀ z ∈ upsL, z.length ≤ sizeLine := by decide +kernel
theorem atI_nat {α : Type} {xs : List α} {i : Nat} (h : i < xs.length) : atI xs (i : Int) = xs[i]? := by
  unfold atI ixN
  rw [if_pos (Int.natCast_nonneg i), if_pos (Int.ofNat_lt.mpr h)]
  rfl
theorem at_0 {α : Type} {x0 : α} {xs : List α} : atI (x0 :: xs) 0 = some x0 := by
  rw [show (0 : Int) = ((0 : Nat) : Int) from rfl, atI_nat (by simp)]; rfl
theorem at_1 {α : Type} {x0 x1 : α} {xs : List α} : atI (x0 :: x1 :: xs) 1 = some x1 := by
  rw [show (1 : Int) = ((1 : Nat) : Int) from rfl, atI_nat (by simp)]; rfl
theorem at_2 {α : Type} {x0 x1 x2 : α} {xs : List α} : atI (x0 :: x1 :: x2 :: xs) 2 = some x2 := by
  rw [show (2 : Int) = ((2 : Nat) : Int) from rfl, atI_nat (by simp)]; rfl
theorem at_3 {α : Type} {x0 x1 x2 x3 : α} {xs : List α} : atI (x0 :: x1 :: x2 :: x3 :: xs) 3 = some x3 := by
  rw [show (3 : Int) = ((3 : Nat) : Int) from rfl, atI_nat (by simp)]; rfl
theorem at_4 {α : Type} {x0 x1 x2 x3 x4 : α} {xs : List α} : atI (x0 :: x1 :: x2 :: x3 :: x4 :: xs) 4 = some x4 := by
  rw [show (4 : Int) = ((4 : Nat) : Int) from rfl, atI_nat (by simp)]; rfl
theorem at_5 {α : Type} {x0 x1 x2 x3 x4 x5 : α} {xs : List α} : atI (x0 :: x1 :: x2 :: x3 :: x4 :: x5 :: xs) 5 = some x5 := by
  rw [show (5 : Int) = ((5 : Nat) : Int) from rfl, atI_nat (by simp)]; rfl
theorem at_6 {α : Type} {x0 x1 x2 x3 x4 x5 x6 : α} {xs : List α} : atI (x0 :: x1 :: x2 :: x3 :: x4 :: x5 :: x6 :: xs) 6 = some x6 := by
  rw [show (6 : Int) = ((6 : Nat) : Int) from rfl, atI_nat (by simp)]; rfl
theorem at_7 {α : Type} {x0 x1 x2 x3 x4 x5 x6 x7 : α} {xs : List α} : atI (x0 :: x1 :: x2 :: x3 :: x4 :: x5 :: x6 :: x7 :: xs) 7 = some x7 := by
  rw [show (7 : Int) = ((7 : Nat) : Int) from rfl, atI_nat (by simp)]; rfl
theorem at_8 {α : Type} {x0 x1 x2 x3 x4 x5 x6 x7 x8 : α} {xs : List α} : atI (x0 :: x1 :: x2 :: x3 :: x4 :: x5 :: x6 :: x7 :: x8 :: xs) 8 = some x8 := by
  rw [show (8 : Int) = ((8 : Nat) : Int) from rfl, atI_nat (by simp)]; rfl
theorem at_9 {α : Type} {x0 x1 x2 x3 x4 x5 x6 x7 x8 x9 : α} {xs : List α} : atI (x0 :: x1 :: x2 :: x3 :: x4 :: x5 :: x6 :: x7 :: x8 :: x9 :: xs) 9 = some x9 := by
  rw [show (9 : Int) = ((9 : Nat) : Int) from rfl, atI_nat (by simp)]; rfl
theorem isNameD_str {z : Str} : isNameD (.str z) = isName z := rfl
theorem oStr_some {z : Str} : oStr (some z) = .str z := rfl
theorem oStr_none : oStr none = .non := rfl
theorem begD_some {p : Str × Bool} : begD (some p) = .tup [.str p.1, .bl p.2] := rfl
theorem begD_none : begD none = .non := rfl
theorem isUpD_str {z : Str} : isUpD (.str z) = decide (z ∈ upsL) := rfl
theorem is_row_good {k : KD} {s : S} {Q : D → S → Prop} {E : Ex → S → Prop} (g : k.Good) (q : Q (.bl true) s) : d_is_row [k.row] s Q E := by
  obtain ⟨nm, bs, ow, bg⟩ := k
  have gn : isName nm = true := g.name
  unfold d_is_row b_is_row KD.row
  cases bs with
  | none =>
    cases bg with
    | none =>
      simp -implicitDefEqProofs only [word_snoc, DL.runs_D14, DL.runs_D15, DL.runs_D16, DL.runs_D17, DL.runs_D19, DL.runs_D20, DL.runs_D23, DL.runs_D24, DL.runs_D25, DL.runs_D26, DL.runs_D31, DL.runs_D34, DL.runs_D36, DL.runs_mir, x_setFld, at_0, at_1, at_2, at_3, at_4, at_5, at_6, at_7, at_8, at_9, isNameD_str, oStr_some, oStr_none, begD_some, begD_none, isUpD_str, Nat.reduceSub, Nat.reduceAdd]
      refine is_name_wp (flat_name g.name) ?_
      simp -implicitDefEqProofs only [word_snoc, DL.runs_D14, DL.runs_D15, DL.runs_D16, DL.runs_D17, DL.runs_D19, DL.runs_D20, DL.runs_D23, DL.runs_D24, DL.runs_D25, DL.runs_D26, DL.runs_D31, DL.runs_D34, DL.runs_D36, DL.runs_mir, x_setFld, at_0, at_1, at_2, at_3, at_4, at_5, at_6, at_7, at_8, at_9, isNameD_str, oStr_some, oStr_none, begD_some, begD_none, isUpD_str, gn]
      exact q
    | some p =>
      have gp := g.beg p rfl
      simp -implicitDefEqProofs only [word_snoc, DL.runs_D14, DL.runs_D15, DL.runs_D16, DL.runs_D17, DL.runs_D19, DL.runs_D20, DL.runs_D23, DL.runs_D24, DL.runs_D25, DL.runs_D26, DL.runs_D31, DL.runs_D34, DL.runs_D36, DL.runs_mir, x_setFld, at_0, at_1, at_2, at_3, at_4, at_5, at_6, at_7, at_8, at_9, isNameD_str, oStr_some, oStr_none, begD_some, begD_none, isUpD_str, Nat.reduceSub, Nat.reduceAdd]
      refine is_name_wp (flat_name g.name) ?_
      simp -implicitDefEqProofs only [word_snoc, DL.runs_D14, DL.runs_D15, DL.runs_D16, DL.runs_D17, DL.runs_D19, DL.runs_D20, DL.runs_D23, DL.runs_D24, DL.runs_D25, DL.runs_D26, DL.runs_D31, DL.runs_D34, DL.runs_D36, DL.runs_mir, x_setFld, at_0, at_1, at_2, at_3, at_4, at_5, at_6, at_7, at_8, at_9, isNameD_str, oStr_some, oStr_none, begD_some, begD_none, isUpD_str, gn, Nat.reduceAdd, Int.reduceEq, decide_true]
      refine is_up_wp (decide_eq_true (up_len _ gp)) ?_
      simp -implicitDefEqProofs only [word_snoc, DL.runs_D14, DL.runs_D15, DL.runs_D16, DL.runs_D17, DL.runs_D19, DL.runs_D20, DL.runs_D23, DL.runs_D24, DL.runs_D25, DL.runs_D26, DL.runs_D31, DL.runs_D34, DL.runs_D36, DL.runs_mir, x_setFld, at_0, at_1, at_2, at_3, at_4, at_5, at_6, at_7, at_8, at_9, isNameD_str, oStr_some, oStr_none, begD_some, begD_none, isUpD_str, gp, decide_true]
      exact q
  | some b =>
    have gb := g.base b rfl
    cases bg with
    | none =>
      simp -implicitDefEqProofs only [word_snoc, DL.runs_D14, DL.runs_D15, DL.runs_D16, DL.runs_D17, DL.runs_D19, DL.runs_D20, DL.runs_D23, DL.runs_D24, DL.runs_D25, DL.runs_D26, DL.runs_D31, DL.runs_D34, DL.runs_D36, DL.runs_mir, x_setFld, at_0, at_1, at_2, at_3, at_4, at_5, at_6, at_7, at_8, at_9, isNameD_str, oStr_some, oStr_none, begD_some, begD_none, isUpD_str, Nat.reduceSub, Nat.reduceAdd]
      refine is_name_wp (flat_name g.name) ?_
      simp -implicitDefEqProofs only [word_snoc, DL.runs_D14, DL.runs_D15, DL.runs_D16, DL.runs_D17, DL.runs_D19, DL.runs_D20, DL.runs_D23, DL.runs_D24, DL.runs_D25, DL.runs_D26, DL.runs_D31, DL.runs_D34, DL.runs_D36, DL.runs_mir, x_setFld, at_0, at_1, at_2, at_3, at_4, at_5, at_6, at_7, at_8, at_9, isNameD_str, oStr_some, oStr_none, begD_some, begD_none, isUpD_str, gn]
      refine is_name_wp (flat_name gb) ?_
      simp -implicitDefEqProofs only [word_snoc, DL.runs_D14, DL.runs_D15, DL.runs_D16, DL.runs_D17, DL.runs_D19, DL.runs_D20, DL.runs_D23, DL.runs_D24, DL.runs_D25, DL.runs_D26, DL.runs_D31, DL.runs_D34, DL.runs_D36, DL.runs_mir, x_setFld, at_0, at_1, at_2, at_3, at_4, at_5, at_6, at_7, at_8, at_9, isNameD_str, oStr_some, oStr_none, begD_some, begD_none, isUpD_str, gb]
      exact q
    | some p =>
      have gp := g.beg p rfl
      simp -implicitDefEqProofs only [word_snoc, DL.runs_D14, DL.runs_D15, DL.runs_D16, DL.runs_D17, DL.runs_D19, DL.runs_D20, DL.runs_D23, DL.runs_D24, DL.runs_D25, DL.runs_D26, DL.runs_D31, DL.runs_D34, DL.runs_D36, DL.runs_mir, x_setFld, at_0, at_1, at_2, at_3, at_4, at_5, at_6, at_7, at_8, at_9, isNameD_str, oStr_some, oStr_none, begD_some, begD_none, isUpD_str, Nat.reduceSub, Nat.reduceAdd]
      refine is_name_wp (flat_name g.name) ?_
      simp -implicitDefEqProofs only [word_snoc, DL.runs_D14, DL.runs_D15, DL.runs_D16, DL.runs_D17, DL.runs_D19, DL.runs_D20, DL.runs_D23, DL.runs_D24, DL.runs_D25, DL.runs_D26, DL.runs_D31, DL.runs_D34, DL.runs_D36, DL.runs_mir, x_setFld, at_0, at_1, at_2, at_3, at_4, at_5, at_6, at_7, at_8, at_9, isNameD_str, oStr_some, oStr_none, begD_some, begD_none, isUpD_str, gn]
      refine is_name_wp (flat_name gb) ?_
      simp -implicitDefEqProofs only [word_snoc, DL.runs_D14, DL.runs_D15, DL.runs_D16, DL.runs_D17, DL.runs_D19, DL.runs_D20, DL.runs_D23, DL.runs_D24, DL.runs_D25, DL.runs_D26, DL.runs_D31, DL.runs_D34, DL.runs_D36, DL.runs_mir, x_setFld, at_0, at_1, at_2, at_3, at_4, at_5, at_6, at_7, at_8, at_9, isNameD_str, oStr_some, oStr_none, begD_some, begD_none, isUpD_str, gb, Nat.reduceAdd, Int.reduceEq, decide_true]
      refine is_up_wp (decide_eq_true (up_len _ gp)) ?_
      simp -implicitDefEqProofs only [word_snoc, DL.runs_D14, DL.runs_D15, DL.runs_D16, DL.runs_D17, DL.runs_D19, DL.runs_D20, DL.runs_D23, DL.runs_D24, DL.runs_D25, DL.runs_D26, DL.runs_D31, DL.runs_D34, DL.runs_D36, DL.runs_mir, x_setFld, at_0, at_1, at_2, at_3, at_4, at_5, at_6, at_7, at_8, at_9, isNameD_str, oStr_some, oStr_none, begD_some, begD_none, isUpD_str, gp, decide_true]
      exact q
end DL
namespace DL
def runs_sp_exec := And.intro @x_setFld (And.intro @at_0 (And.intro @at_1 (And.intro @at_2 (And.intro @at_3 (And.intro @at_4 (And.intro @at_5 (And.intro @at_6 (And.intro @at_7 (And.intro @at_8 (And.intro @at_9 (And.intro @isNameD_str (And.intro @oStr_some (And.intro @oStr_none (And.intro @begD_some (And.intro @begD_none (@isUpD_str))))))))))))))))
end DL
namespace DL
open PySem L2
section
variable {s : S} {Q : D → S → Prop} {E : Ex → S → Prop}
theorem Kind_init_wp {a : Addr} {nm : Str} {bs : Option Str} {ow : Bool} {bg : D} (h1 : isName nm = true) (h2 : ∀ b, bs = some b → isName b = true)
    (q : Q .non (s.set a (.ins "Kind" [("name", .str nm), ("base", oStr bs), ("own", .bl ow), ("begin", bg)]))) : d_Kind_init [.ref a, .str nm, oStr bs, .bl ow, bg] (s.set a (.ins "Kind" [])) Q E := by
  unfold d_Kind_init b_Kind_init
  simp -implicitDefEqProofs only [word_snoc, DL.runs_D14, DL.runs_D15, DL.runs_D16, DL.runs_D17, DL.runs_D19, DL.runs_D20, DL.runs_D23, DL.runs_D24, DL.runs_D25, DL.runs_D26, DL.runs_D31, DL.runs_D34, DL.runs_D36, DL.runs_mir, DL.runs_sp_exec, Nat.reduceSub, Nat.reduceAdd, Nat.reduceLT, true_and]
  refine is_name_wp (flat_name h1) ?_
  simp -implicitDefEqProofs only [word_snoc, DL.runs_D14, DL.runs_D15, DL.runs_D16, DL.runs_D17, DL.runs_D19, DL.runs_D20, DL.runs_D23, DL.runs_D24, DL.runs_D25, DL.runs_D26, DL.runs_D31, DL.runs_D34, DL.runs_D36, DL.runs_mir, DL.runs_sp_exec, Nat.reduceSub, Nat.reduceAdd, Nat.reduceLT, true_and, h1]
  cases bs with
  | none =>
    simp -implicitDefEqProofs only [word_snoc, DL.runs_D14, DL.runs_D15, DL.runs_D16, DL.runs_D17, DL.runs_D19, DL.runs_D20, DL.runs_D23, DL.runs_D24, DL.runs_D25, DL.runs_D26, DL.runs_D31, DL.runs_D34, DL.runs_D36, DL.runs_mir, DL.runs_sp_exec, Nat.reduceSub, Nat.reduceAdd, Nat.reduceLT, true_and]
    exact q
  | some b =>
    simp -implicitDefEqProofs only [word_snoc, DL.runs_D14, DL.runs_D15, DL.runs_D16, DL.runs_D17, DL.runs_D19, DL.runs_D20, DL.runs_D23, DL.runs_D24, DL.runs_D25, DL.runs_D26, DL.runs_D31, DL.runs_D34, DL.runs_D36, DL.runs_mir, DL.runs_sp_exec, Nat.reduceSub, Nat.reduceAdd, Nat.reduceLT, true_and]
    refine is_name_wp (flat_name (h2 b rfl)) ?_
    simp -implicitDefEqProofs only [word_snoc, DL.runs_D14, DL.runs_D15, DL.runs_D16, DL.runs_D17, DL.runs_D19, DL.runs_D20, DL.runs_D23, DL.runs_D24, DL.runs_D25, DL.runs_D26, DL.runs_D31, DL.runs_D34, DL.runs_D36, DL.runs_mir, DL.runs_sp_exec, Nat.reduceSub, Nat.reduceAdd, Nat.reduceLT, true_and, h2 b rfl]
    exact q
theorem Part_init_wp {a : Addr} {up : Str} {gd : Bool} (h : up ∈ upsL) (q : Q .non (s.set a (.ins "Part" [("up", .str up), ("guarded", .bl gd)]))) : d_Part_init [.ref a, .str up, .bl gd] (s.set a (.ins "Part" [])) Q E := by
  unfold d_Part_init b_Part_init
  simp -implicitDefEqProofs only [word_snoc, DL.runs_D14, DL.runs_D15, DL.runs_D16, DL.runs_D17, DL.runs_D19, DL.runs_D20, DL.runs_D23, DL.runs_D24, DL.runs_D25, DL.runs_D26, DL.runs_D31, DL.runs_D34, DL.runs_D36, DL.runs_mir, DL.runs_sp_exec, Nat.reduceSub, Nat.reduceAdd, Nat.reduceLT, true_and]
  refine is_up_wp (decide_eq_true (up_len _ h)) ?_
  simp -implicitDefEqProofs only [word_snoc, DL.runs_D14, DL.runs_D15, DL.runs_D16, DL.runs_D17, DL.runs_D19, DL.runs_D20, DL.runs_D23, DL.runs_D24, DL.runs_D25, DL.runs_D26, DL.runs_D31, DL.runs_D34, DL.runs_D36, DL.runs_mir, DL.runs_sp_exec, Nat.reduceSub, Nat.reduceAdd, Nat.reduceLT, true_and, h, decide_true]
  exact q
theorem Kind_of_good {k : KD} (g : k.Good) (q : Q k.ins s) : d_Kind_of [.cls "Kind", k.row] s Q E := by
  unfold d_Kind_of b_Kind_of
  simp -implicitDefEqProofs only [word_snoc, DL.runs_D14, DL.runs_D15, DL.runs_D16, DL.runs_D17, DL.runs_D19, DL.runs_D20, DL.runs_D23, DL.runs_D24, DL.runs_D25, DL.runs_D26, DL.runs_D31, DL.runs_D34, DL.runs_D36, DL.runs_mir, DL.runs_sp_exec, Nat.reduceSub, Nat.reduceAdd, Nat.reduceLT, true_and]
  refine is_row_good g ?_
  obtain ⟨nm, bs, ow, bg⟩ := k
  cases bg with
  | none =>
    simp -implicitDefEqProofs only [word_snoc, DL.runs_D14, DL.runs_D15, DL.runs_D16, DL.runs_D17, DL.runs_D19, DL.runs_D20, DL.runs_D23, DL.runs_D24, DL.runs_D25, DL.runs_D26, DL.runs_D31, DL.runs_D34, DL.runs_D36, DL.runs_mir, DL.runs_sp_exec, Nat.reduceSub, Nat.reduceAdd, Nat.reduceLT, true_and, KD.row]
    intro a ha
    refine Kind_init_wp g.name g.base ?_
    simp -implicitDefEqProofs only [word_snoc, DL.runs_D14, DL.runs_D15, DL.runs_D16, DL.runs_D17, DL.runs_D19, DL.runs_D20, DL.runs_D23, DL.runs_D24, DL.runs_D25, DL.runs_D26, DL.runs_D31, DL.runs_D34, DL.runs_D36, DL.runs_mir, DL.runs_sp_exec, Nat.reduceSub, Nat.reduceAdd, Nat.reduceLT, true_and, ha]
    exact q
  | some p =>
    simp -implicitDefEqProofs only [word_snoc, DL.runs_D14, DL.runs_D15, DL.runs_D16, DL.runs_D17, DL.runs_D19, DL.runs_D20, DL.runs_D23, DL.runs_D24, DL.runs_D25, DL.runs_D26, DL.runs_D31, DL.runs_D34, DL.runs_D36, DL.runs_mir, DL.runs_sp_exec, Nat.reduceSub, Nat.reduceAdd, Nat.reduceLT, true_and, KD.row]
    intro a ha
    refine Part_init_wp (g.beg p rfl) ?_
    simp -implicitDefEqProofs only [word_snoc, DL.runs_D14, DL.runs_D15, DL.runs_D16, DL.runs_D17, DL.runs_D19, DL.runs_D20, DL.runs_D23, DL.runs_D24, DL.runs_D25, DL.runs_D26, DL.runs_D31, DL.runs_D34, DL.runs_D36, DL.runs_mir, DL.runs_sp_exec, Nat.reduceSub, Nat.reduceAdd, Nat.reduceLT, true_and, ha]
    intro a ha
    refine Kind_init_wp g.name g.base ?_
    simp -implicitDefEqProofs only [word_snoc, DL.runs_D14, DL.runs_D15, DL.runs_D16, DL.runs_D17, DL.runs_D19, DL.runs_D20, DL.runs_D23, DL.runs_D24, DL.runs_D25, DL.runs_D26, DL.runs_D31, DL.runs_D34, DL.runs_D36, DL.runs_mir, DL.runs_sp_exec, Nat.reduceSub, Nat.reduceAdd, Nat.reduceLT, true_and, ha]
    exact q
theorem Kind_row_wp {k : KD} (q : Q k.row s) : d_Kind_row [k.ins] s Q E := by
  obtain ⟨nm, bs, ow, bg⟩ := k
  unfold d_Kind_row b_Kind_row KD.ins
  cases bg with
  | none =>
    simp -implicitDefEqProofs only [word_snoc, DL.runs_D14, DL.runs_D15, DL.runs_D16, DL.runs_D17, DL.runs_D19, DL.runs_D20, DL.runs_D23, DL.runs_D24, DL.runs_D25, DL.runs_D26, DL.runs_D31, DL.runs_D34, DL.runs_D36, DL.runs_mir, DL.runs_sp_exec, Nat.reduceSub, Nat.reduceAdd, Nat.reduceLT, true_and, beginD]
    exact q
  | some p =>
    simp -implicitDefEqProofs only [word_snoc, DL.runs_D14, DL.runs_D15, DL.runs_D16, DL.runs_D17, DL.runs_D19, DL.runs_D20, DL.runs_D23, DL.runs_D24, DL.runs_D25, DL.runs_D26, DL.runs_D31, DL.runs_D34, DL.runs_D36, DL.runs_mir, DL.runs_sp_exec, Nat.reduceSub, Nat.reduceAdd, Nat.reduceLT, true_and, beginD]
    exact q
end
end DL
namespace DL
open PySem L2
mutual
def noMix : D → D → Bool
  | .bl _, .int _ => false
  | .int _, .bl _ => false
  | .tup xs, .tup ys => noMixs xs ys
  | .lst xs, .lst ys => noMixs xs ys
  | _, _ => true
def noMixs : List D → List D → Bool
  | x :: xs, y :: ys => noMix x y && noMixs xs ys
  | _, _ => true
end
mutual
theorem eqv_iff : ∀ {x y : D} {p q : PyData}, toPy x = some p → toPy y = some q → noMix x y = true → (PyData.eqv p q = true ↔ x = y)
  | .non, y, p, q, hx, hy, m => by
    cases (Option.some.inj hx)
    cases y with
    | non => cases (Option.some.inj hy); exact ⟨fun _ => rfl, fun _ => rfl⟩
    | bl _ => cases (Option.some.inj hy); exact ⟨fun h => (by cases h), fun h => (by cases h)⟩
    | int _ => cases (Option.some.inj hy); exact ⟨fun h => (by cases h), fun h => (by cases h)⟩
    | str _ => cases (Option.some.inj hy); exact ⟨fun h => (by cases h), fun h => (by cases h)⟩
    | tup ys => unfold toPy at hy; obtain ⟨ps, h1, rfl⟩ := Option.map_eq_some_iff.mp hy; exact ⟨fun h => (by cases h), fun h => (by cases h)⟩
    | lst ys => unfold toPy at hy; obtain ⟨ps, h1, rfl⟩ := Option.map_eq_some_iff.mp hy; exact ⟨fun h => (by cases h), fun h => (by cases h)⟩
    | _ => cases hy
  | .bl b, y, p, q, hx, hy, m => by
    cases (Option.some.inj hx)
    cases y with
    | bl c => cases (Option.some.inj hy); show (b == c) = true ↔ _; simp
    | non => cases (Option.some.inj hy); exact ⟨fun h => (by cases h), fun h => (by cases h)⟩
    | int _ => cases m
    | str _ => cases (Option.some.inj hy); exact ⟨fun h => (by cases h), fun h => (by cases h)⟩
    | tup ys => unfold toPy at hy; obtain ⟨ps, h1, rfl⟩ := Option.map_eq_some_iff.mp hy; exact ⟨fun h => (by cases h), fun h => (by cases h)⟩
    | lst ys => unfold toPy at hy; obtain ⟨ps, h1, rfl⟩ := Option.map_eq_some_iff.mp hy; exact ⟨fun h => (by cases h), fun h => (by cases h)⟩
    | _ => cases hy
  | .int b, y, p, q, hx, hy, m => by
    cases (Option.some.inj hx)
    cases y with
    | int c => cases (Option.some.inj hy); show (b == c) = true ↔ _; simp
    | non => cases (Option.some.inj hy); exact ⟨fun h => (by cases h), fun h => (by cases h)⟩
    | bl _ => cases m
    | str _ => cases (Option.some.inj hy); exact ⟨fun h => (by cases h), fun h => (by cases h)⟩
    | tup ys => unfold toPy at hy; obtain ⟨ps, h1, rfl⟩ := Option.map_eq_some_iff.mp hy; exact ⟨fun h => (by cases h), fun h => (by cases h)⟩
    | lst ys => unfold toPy at hy; obtain ⟨ps, h1, rfl⟩ := Option.map_eq_some_iff.mp hy; exact ⟨fun h => (by cases h), fun h => (by cases h)⟩
    | _ => cases hy
  | .str b, y, p, q, hx, hy, m => by
    cases (Option.some.inj hx)
    cases y with
    | str c => cases (Option.some.inj hy); show (b == c) = true ↔ _; simp
    | non => cases (Option.some.inj hy); exact ⟨fun h => (by cases h), fun h => (by cases h)⟩
    | bl _ => cases (Option.some.inj hy); exact ⟨fun h => (by cases h), fun h => (by cases h)⟩
    | int _ => cases (Option.some.inj hy); exact ⟨fun h => (by cases h), fun h => (by cases h)⟩
    | tup ys => unfold toPy at hy; obtain ⟨ps, h1, rfl⟩ := Option.map_eq_some_iff.mp hy; exact ⟨fun h => (by cases h), fun h => (by cases h)⟩
    | lst ys => unfold toPy at hy; obtain ⟨ps, h1, rfl⟩ := Option.map_eq_some_iff.mp hy; exact ⟨fun h => (by cases h), fun h => (by cases h)⟩
    | _ => cases hy
  | .tup xs, y, p, q, hx, hy, m => by
    unfold toPy at hx
    obtain ⟨ps, h1, rfl⟩ := Option.map_eq_some_iff.mp hx
    cases y with
    | tup ys =>
      unfold toPy at hy
      obtain ⟨qs, h2, rfl⟩ := Option.map_eq_some_iff.mp hy
      unfold noMix at m
      show PyData.eqvAll ps qs = true ↔ _
      rw [eqvs_iff h1 h2 m]
      exact ⟨fun h => by rw [h], fun h => by cases h; rfl⟩
    | non => cases (Option.some.inj hy); exact ⟨fun h => (by cases h), fun h => (by cases h)⟩
    | bl _ => cases (Option.some.inj hy); exact ⟨fun h => (by cases h), fun h => (by cases h)⟩
    | int _ => cases (Option.some.inj hy); exact ⟨fun h => (by cases h), fun h => (by cases h)⟩
    | str _ => cases (Option.some.inj hy); exact ⟨fun h => (by cases h), fun h => (by cases h)⟩
    | lst ys => unfold toPy at hy; obtain ⟨ps, h1, rfl⟩ := Option.map_eq_some_iff.mp hy; exact ⟨fun h => (by cases h), fun h => (by cases h)⟩
    | _ => cases hy
  | .lst xs, y, p, q, hx, hy, m => by
    unfold toPy at hx
    obtain ⟨ps, h1, rfl⟩ := Option.map_eq_some_iff.mp hx
    cases y with
    | lst ys =>
      unfold toPy at hy
      obtain ⟨qs, h2, rfl⟩ := Option.map_eq_some_iff.mp hy
      unfold noMix at m
      show PyData.eqvAll ps qs = true ↔ _
      rw [eqvs_iff h1 h2 m]
      exact ⟨fun h => by rw [h], fun h => by cases h; rfl⟩
    | non => cases (Option.some.inj hy); exact ⟨fun h => (by cases h), fun h => (by cases h)⟩
    | bl _ => cases (Option.some.inj hy); exact ⟨fun h => (by cases h), fun h => (by cases h)⟩
    | int _ => cases (Option.some.inj hy); exact ⟨fun h => (by cases h), fun h => (by cases h)⟩
    | str _ => cases (Option.some.inj hy); exact ⟨fun h => (by cases h), fun h => (by cases h)⟩
    | tup ys => unfold toPy at hy; obtain ⟨ps, h1, rfl⟩ := Option.map_eq_some_iff.mp hy; exact ⟨fun h => (by cases h), fun h => (by cases h)⟩
    | _ => cases hy
  | .dic _ _, _, _, _, hx, _, _ => by cases hx
  | .ins _ _ _, _, _, _, hx, _, _ => by cases hx
  | .ref _, _, _, _, hx, _, _ => by cases hx
  | .cls _, _, _, _, hx, _, _ => by cases hx
  | .cst _, _, _, _, hx, _, _ => by cases hx
  | .ty _, _, _, _, hx, _, _ => by cases hx
  | .scr, _, _, _, hx, _, _ => by cases hx
theorem eqvs_iff : ∀ {x y : List D} {p q : List PyData}, toPys x = some p → toPys y = some q → noMixs x y = true → (PyData.eqvAll p q = true ↔ x = y)
  | [], y, p, q, hx, hy, m => by
    cases (Option.some.inj hx)
    cases y with
    | nil => cases (Option.some.inj hy); exact ⟨fun _ => rfl, fun _ => rfl⟩
    | cons d ds =>
      unfold toPys at hy
      obtain ⟨a, h1, hy⟩ := Option.bind_eq_some_iff.mp hy
      obtain ⟨as, h2, rfl⟩ := Option.map_eq_some_iff.mp hy
      exact ⟨fun h => (by cases h), fun h => (by cases h)⟩
  | x :: xs, y, p, q, hx, hy, m => by
    unfold toPys at hx
    obtain ⟨a, h1, hx⟩ := Option.bind_eq_some_iff.mp hx
    obtain ⟨as, h2, rfl⟩ := Option.map_eq_some_iff.mp hx
    cases y with
    | nil => cases (Option.some.inj hy); exact ⟨fun h => (by cases h), fun h => (by cases h)⟩
    | cons d ds =>
      unfold toPys at hy
      obtain ⟨b, h3, hy⟩ := Option.bind_eq_some_iff.mp hy
      obtain ⟨bs, h4, rfl⟩ := Option.map_eq_some_iff.mp hy
      unfold noMixs at m
      obtain ⟨m1, m2⟩ := He.ba m
      show (PyData.eqv a b && PyData.eqvAll as bs) = true ↔ _
      rw [Bool.and_eq_true, eqv_iff h1 h3 m1, eqvs_iff h2 h4 m2]
      exact ⟨fun ⟨h, k⟩ => by rw [h, k], fun h => by cases h; exact ⟨rfl, rfl⟩⟩
end
mutual
def okE : D → Bool
  | .non => true
  | .bl _ => true
  | .int _ => true
  | .str z => PyData.strOk z
  | .tup xs => okEs xs
  | .lst xs => okEs xs
  | _ => false
def okEs : List D → Bool
  | [] => true
  | x :: xs => okE x && okEs xs
end
mutual
def depE : D → Nat
  | .tup xs => depEs xs + 1
  | .lst xs => depEs xs + 1
  | _ => 0
def depEs : List D → Nat
  | [] => 0
  | x :: xs => max (depE x) (depEs xs)
end
mutual
theorem okE_py : ∀ {x : D}, okE x = true → ∃ p, toPy x = some p ∧ p.canLay0 = true ∧ p.depth = depE x
  | .non, _ => ⟨_, rfl, rfl, rfl⟩
  | .bl _, _ => ⟨_, rfl, rfl, rfl⟩
  | .int _, _ => ⟨_, rfl, rfl, rfl⟩
  | .str _, h => ⟨_, rfl, h, rfl⟩
  | .tup xs, h => by
    obtain ⟨ps, h1, h2, h3⟩ := okEs_py (show okEs xs = true from by unfold okE at h; exact h)
    refine ⟨.tuple ps, by unfold toPy; rw [h1]; rfl, h2, ?_⟩
    unfold depE PyData.depth
    rw [h3]
  | .lst xs, h => by
    obtain ⟨ps, h1, h2, h3⟩ := okEs_py (show okEs xs = true from by unfold okE at h; exact h)
    refine ⟨.list ps, by unfold toPy; rw [h1]; rfl, h2, ?_⟩
    unfold depE PyData.depth
    rw [h3]
  | .dic _ _, h => by cases h
  | .ins _ _ _, h => by cases h
  | .ref _, h => by cases h
  | .cls _, h => by cases h
  | .cst _, h => by cases h
  | .ty _, h => by cases h
  | .scr, h => by cases h
theorem okEs_py : ∀ {x : List D}, okEs x = true → ∃ p, toPys x = some p ∧ PyData.canLayAll0 p = true ∧ PyData.depthAll p = depEs x
  | [], _ => ⟨_, rfl, rfl, rfl⟩
  | x :: xs, h => by
    unfold okEs at h
    obtain ⟨h1, h2⟩ := He.ba h
    obtain ⟨p, a1, a2, a3⟩ := okE_py h1
    obtain ⟨ps, b1, b2, b3⟩ := okEs_py h2
    refine ⟨p :: ps, by unfold toPys; rw [a1, b1]; rfl, ?_, ?_⟩
    · show (PyData.canLay0 p && PyData.canLayAll0 ps) = true
      rw [a2, b2]; rfl
    · unfold depEs PyData.depthAll
      rw [a3, b3]
end
theorem eqP_of {s : S} {x y : D} (vx : viewD s x = x) (vy : viewD s y = y) (hx : okE x = true) (hy : okE y = true) (dx : depE x ≤ 64) (dy : depE y ≤ 64) (m : noMix x y = true) : ∃ b, eqP s x y = some b ∧ (b = true ↔ x = y) := by
  obtain ⟨p, a1, a2, a3⟩ := okE_py hx
  obtain ⟨q, b1, b2, b3⟩ := okE_py hy
  refine ⟨PyData.eqv p q, ?_, eqv_iff a1 b1 m⟩
  unfold eqP
  rw [vx, vy, a1, b1]
  simp only
  rw [if_pos]
  refine ⟨?_, ?_⟩
  · show (p.canLay0 && decide (p.depth ≤ 64)) = true
    rw [a2, a3, decide_eq_true dx]; rfl
  · show (q.canLay0 && decide (q.depth ≤ 64)) = true
    rw [b2, b3, decide_eq_true dy]; rfl
theorem eqD_tup {s : S} {xs : List D} {y : D} (vy : viewD s y = y) (hx : okEs xs = true) (hy : okE y = true) (dx : depEs xs ≤ 63) (dy : depE y ≤ 64) (m : noMix (.tup xs) y = true) : ∃ b, eqD (.tup xs) y s = some (.bl b) ∧ (b = true ↔ .tup xs = y) := by
  obtain ⟨b, h1, h2⟩ := eqP_of (s := s) (x := .tup xs) rfl vy (by unfold okE; exact hx) hy (by unfold depE; omega) dy m
  refine ⟨b, ?_, h2⟩
  have e : eqS (.tup xs) y = none := rfl
  show (eqB s (.tup xs) y).map D.bl = _
  unfold eqB
  rw [e]
  simp only
  rw [h1]; rfl
end DL
namespace DL
open PySem L2
section
variable {s : S} {Q : D → S → Prop} {E : Ex → S → Prop}
theorem strOk_name {z : Str} (h : isName z = true) : PyData.strOk z = true := by
  obtain ⟨_, h2⟩ := isName_iff.mp h
  unfold PyData.strOk
  rw [Array.all_eq_true']
  intro c hc
  have h3 : ∀ c ∈ letters, c < 0x110000 := by decide +kernel
  exact decide_eq_true (h3 c (h2 c (by simpa using hc)))
theorem strOk_up : ∀ z ∈ upsL, PyData.strOk z = true := by decide +kernel
theorem row_ok {k : KD} (g : k.Good) : okEs [.str k.name, oStr k.base, .bl k.own, begD k.beg] = true := by
  obtain ⟨nm, bs, ow, bg⟩ := k
  have h1 := strOk_name g.name
  have h2 : okE (oStr bs) = true := by
    cases bs with
    | none => rfl
    | some b => exact strOk_name (g.base b rfl)
  have h3 : okE (begD bg) = true := by
    cases bg with
    | none => rfl
    | some p => show (PyData.strOk p.1 && (true && true)) = true; rw [strOk_up _ (g.beg p rfl)]; rfl
  show (PyData.strOk nm && (okE (oStr bs) && (true && (okE (begD bg) && true)))) = true
  rw [show PyData.strOk nm = true from h1, h2, h3]; rfl
theorem row_dep {k : KD} : depEs [.str k.name, oStr k.base, .bl k.own, begD k.beg] ≤ 1 := by
  obtain ⟨nm, bs, ow, bg⟩ := k
  cases bs <;> cases bg <;> first | exact Nat.zero_le 1 | exact Nat.le_refl 1
theorem row_mix {k k' : KD} : noMix k.row k'.row = true := by
  obtain ⟨nm, bs, ow, bg⟩ := k
  obtain ⟨nm', bs', ow', bg'⟩ := k'
  cases bs <;> cases bg <;> cases bs' <;> cases bg' <;> rfl
theorem row_inj {k k' : KD} (h : k.row = k'.row) : k = k' := by
  obtain ⟨nm, bs, ow, bg⟩ := k
  obtain ⟨nm', bs', ow', bg'⟩ := k'
  unfold KD.row at h
  simp only [D.tup.injEq, List.cons.injEq, D.str.injEq, D.bl.injEq, and_true] at h
  obtain ⟨h1, h2, h3, h4⟩ := h
  subst h1 h3
  have e2 : bs = bs' := by
    cases bs <;> cases bs' <;> simp [oStr] at h2 ⊢ <;> exact h2
  have e4 : bg = bg' := by
    cases bg with
    | none => cases bg' with
      | none => rfl
      | some p => simp [begD] at h4
    | some p => cases bg' with
      | none => simp [begD] at h4
      | some p' =>
        obtain ⟨a, b⟩ := p
        obtain ⟨a', b'⟩ := p'
        simp [begD] at h4
        rw [h4.1, h4.2]
  subst e2 e4
  rfl
theorem eq_row {k k' : KD} (g : k.Good) (g' : k'.Good) : eqD k.row k'.row s = some (.bl (decide (k = k'))) := by
  obtain ⟨b, h1, h2⟩ := eqD_tup (s := s) (xs := [.str k.name, oStr k.base, .bl k.own, begD k.beg]) (y := k'.row) rfl (row_ok g) (by unfold KD.row okE; exact row_ok g') (Nat.le_trans row_dep (by decide)) (by unfold KD.row depE; have := @row_dep k'; omega) row_mix
  have e : b = decide (k = k') := by
    rw [Bool.eq_iff_iff, h2, decide_eq_true_eq]
    exact ⟨row_inj, fun h => by rw [h]; rfl⟩
  rw [← e]
  exact h1
theorem Kind_eq_wp {k k' : KD} (g : k.Good) (g' : k'.Good) (q : Q (.bl (decide (k = k'))) s) : d_Kind_eq [k.ins, k'.ins] s Q E := by
  unfold d_Kind_eq b_Kind_eq
  have h1 : isiD ownC [k'.ins, .cls "Kind"] s = some (.bl true) := by
    rw [KD.ins, isi_ins_cls (by decide) (by decide)]; rfl
  have h3 : insOk "Kind" "row" k.ins s = some () := rfl
  have h4 : insOk "Kind" "row" k'.ins s = some () := rfl
  simp -implicitDefEqProofs only [word_snoc, DL.runs_D14, DL.runs_D15, DL.runs_D16, DL.runs_D17, DL.runs_D19, DL.runs_D20, DL.runs_D23, DL.runs_D24, DL.runs_D25, DL.runs_D26, DL.runs_D31, DL.runs_D34, DL.runs_D36, DL.runs_mir, DL.runs_sp_exec, Nat.reduceSub, Nat.reduceAdd, Nat.reduceLT, true_and, h1, h3, h4]
  refine Kind_row_wp ?_
  simp -implicitDefEqProofs only [word_snoc, DL.runs_D14, DL.runs_D15, DL.runs_D16, DL.runs_D17, DL.runs_D19, DL.runs_D20, DL.runs_D23, DL.runs_D24, DL.runs_D25, DL.runs_D26, DL.runs_D31, DL.runs_D34, DL.runs_D36, DL.runs_mir, DL.runs_sp_exec, Nat.reduceSub, Nat.reduceAdd, Nat.reduceLT, true_and, h4]
  refine Kind_row_wp ?_
  simp -implicitDefEqProofs only [word_snoc, DL.runs_D14, DL.runs_D15, DL.runs_D16, DL.runs_D17, DL.runs_D19, DL.runs_D20, DL.runs_D23, DL.runs_D24, DL.runs_D25, DL.runs_D26, DL.runs_D31, DL.runs_D34, DL.runs_D36, DL.runs_mir, DL.runs_sp_exec, eq_row g g']
  exact q
def ruleL : List Str := ["place", "key", "store", "stopped", "fits", "misfit", "compare", "unlike", "unready", "again"]
def chL : List (List Str) := [["here", "each", "near", "nowhere"], ["none", "class", "arguments", "both"], ["ahead", "behind", "late"], ["leave", "drop"], ["any", "kin", "same"], ["anew", "refuse"], ["never", "public", "asked"], ["anew", "refuse"], ["give", "refuse", "anew"], ["yes", "no"]]
def isChD (chs : List Str) : D → Bool
  | .str z => decide (z ∈ chs)
  | _ => false
theorem is_choice_wp {r : Str} {chs : List Str} {d : D} (h : t_CHOICES.lookup r = some (.tup (chs.map .str))) (hf : flat d = true) (q : Q (.bl (isChD chs d)) s) : d_is_choice [.str r, d] s Q E := by
  unfold d_is_choice b_is_choice
  cases d with
  | str z =>
    simp -implicitDefEqProofs only [word_snoc, DL.runs_D14, DL.runs_D15, DL.runs_D16, DL.runs_D17, DL.runs_D19, DL.runs_D20, DL.runs_D23, DL.runs_D24, DL.runs_D25, DL.runs_D26, DL.runs_D31, DL.runs_D34, DL.runs_D36, DL.runs_mir, DL.runs_sp_exec, Nat.reduceSub, Nat.reduceAdd, h, inB_strs]
    exact q
  | non => simp -implicitDefEqProofs only [word_snoc, DL.runs_D14, DL.runs_D15, DL.runs_D16, DL.runs_D17, DL.runs_D19, DL.runs_D20, DL.runs_D23, DL.runs_D24, DL.runs_D25, DL.runs_D26, DL.runs_D31, DL.runs_D34, DL.runs_D36, DL.runs_mir, DL.runs_sp_exec, Nat.reduceSub, Nat.reduceAdd]; exact q
  | bl b => simp -implicitDefEqProofs only [word_snoc, DL.runs_D14, DL.runs_D15, DL.runs_D16, DL.runs_D17, DL.runs_D19, DL.runs_D20, DL.runs_D23, DL.runs_D24, DL.runs_D25, DL.runs_D26, DL.runs_D31, DL.runs_D34, DL.runs_D36, DL.runs_mir, DL.runs_sp_exec, Nat.reduceSub, Nat.reduceAdd]; exact q
  | int b => simp -implicitDefEqProofs only [word_snoc, DL.runs_D14, DL.runs_D15, DL.runs_D16, DL.runs_D17, DL.runs_D19, DL.runs_D20, DL.runs_D23, DL.runs_D24, DL.runs_D25, DL.runs_D26, DL.runs_D31, DL.runs_D34, DL.runs_D36, DL.runs_mir, DL.runs_sp_exec, Nat.reduceSub, Nat.reduceAdd]; exact q
  | tup b => simp -implicitDefEqProofs only [word_snoc, DL.runs_D14, DL.runs_D15, DL.runs_D16, DL.runs_D17, DL.runs_D19, DL.runs_D20, DL.runs_D23, DL.runs_D24, DL.runs_D25, DL.runs_D26, DL.runs_D31, DL.runs_D34, DL.runs_D36, DL.runs_mir, DL.runs_sp_exec, Nat.reduceSub, Nat.reduceAdd]; exact q
  | lst b => simp -implicitDefEqProofs only [word_snoc, DL.runs_D14, DL.runs_D15, DL.runs_D16, DL.runs_D17, DL.runs_D19, DL.runs_D20, DL.runs_D23, DL.runs_D24, DL.runs_D25, DL.runs_D26, DL.runs_D31, DL.runs_D34, DL.runs_D36, DL.runs_mir, DL.runs_sp_exec, Nat.reduceSub, Nat.reduceAdd]; exact q
  | _ => cases hf
end
end DL
namespace DL
open PySem L2
section
variable {s : S} {Q : D → S → Prop} {E : Ex → S → Prop}
inductive Chs : List (Str × Str) → Prop where
  | nil : Chs []
  | cons {r c : Str} {ps : List (Str × Str)} (chs : List Str) (h1 : t_CHOICES.lookup r = some (.tup (chs.map .str))) (h2 : c ∈ chs) (h3 : c.length ≤ sizeLine) (h : Chs ps) : Chs ((r, c) :: ps)
theorem loop_choices {nv : Env → MS} {QF : Fl → S → Prop} {EE : Ex × Env → S → Prop} {x0 x1 x2 x3 x4 x5 x6 x7 x8 x9 x10 x11 : Option D} : ∀ {ps : List (Str × Str)} {o1 o2 : Option D}, Chs ps → (∀ o1 o2, QF (.nx [x0, x1, x2, x3, x4, x5, x6, x7, x8, x9, x10, x11, o1, o2]) s) →
    loopS (fun _ => True) (toTup 2 (toCons (toName 12) (toCons (toName 13) toNil))) (ifS (notT (liftT (callE f_is_choice_2 (argsC (var 12) (argsC (var 13) argsN)) argsN))) nv nilS) (ps.map fun p => .tup [.str p.1, .str p.2]) [x0, x1, x2, x3, x4, x5, x6, x7, x8, x9, x10, x11, o1, o2] s QF EE
  | _, o1, o2, .nil, q => ⟨trivial, q _ _⟩
  | _, o1, o2, .cons (r := r) (c := c) (ps := ps) chs h1 h2 h3 h, q => by
    rw [List.map_cons, x_loop_cons]
    refine ⟨trivial, _, rfl, ?_⟩
    simp -implicitDefEqProofs only [word_snoc, DL.runs_D14, DL.runs_D15, DL.runs_D16, DL.runs_D17, DL.runs_D19, DL.runs_D20, DL.runs_D23, DL.runs_D24, DL.runs_D25, DL.runs_D26, DL.runs_D31, DL.runs_D34, DL.runs_D36, DL.runs_mir, DL.runs_sp_exec, Nat.reduceSub, Nat.reduceAdd]
    refine is_choice_wp h1 (decide_eq_true h3) ?_
    simp -implicitDefEqProofs only [word_snoc, DL.runs_D14, DL.runs_D15, DL.runs_D16, DL.runs_D17, DL.runs_D19, DL.runs_D20, DL.runs_D23, DL.runs_D24, DL.runs_D25, DL.runs_D26, DL.runs_D31, DL.runs_D34, DL.runs_D36, DL.runs_mir, DL.runs_sp_exec, isChD, h2, decide_true]
    exact loop_choices h q
structure MkD where
  place : Str
  key : Str
  store : Str
  stopped : Str
  fits : Str
  misfit : Str
  compare : Str
  unlike : Str
  unready : Str
  again : Str
deriving DecidableEq
def MkD.list (m : MkD) : List Str := [m.place, m.key, m.store, m.stopped, m.fits, m.misfit, m.compare, m.unlike, m.unready, m.again]
def MkD.ins (m : MkD) : D := .ins "Maker" ["place", "key", "store", "stopped", "fits", "misfit", "compare", "unlike", "unready", "again"] [.str m.place, .str m.key, .str m.store, .str m.stopped, .str m.fits, .str m.misfit, .str m.compare, .str m.unlike, .str m.unready, .str m.again]
def MkD.row (m : MkD) : D := .tup (m.list.map .str)
def MkD.Good (m : MkD) : Prop := Chs (ruleL.zip m.list)
theorem Maker_init_wp {a : Addr} {m : MkD} (g : m.Good)
    (q : Q .non (s.set a (.ins "Maker" ([("place", .str m.place), ("key", .str m.key), ("store", .str m.store), ("stopped", .str m.stopped), ("fits", .str m.fits), ("misfit", .str m.misfit), ("compare", .str m.compare), ("unlike", .str m.unlike), ("unready", .str m.unready), ("again", .str m.again)] : List (Str × D))))) :
    d_Maker_init [.ref a, .str m.place, .str m.key, .str m.store, .str m.stopped, .str m.fits, .str m.misfit, .str m.compare, .str m.unlike, .str m.unready, .str m.again] (s.set a (.ins "Maker" [])) Q E := by
  unfold d_Maker_init b_Maker_init
  have hz : ∀ s, zipSrc s [cc_Maker_RULES, .tup [.str m.place, .str m.key, .str m.store, .str m.stopped, .str m.fits, .str m.misfit, .str m.compare, .str m.unlike, .str m.unready, .str m.again]] = some ⟨(ruleL.zip m.list).map fun p => .tup [.str p.1, .str p.2], fun _ => True⟩ := fun _ => rfl
  simp -implicitDefEqProofs only [word_snoc, DL.runs_D14, DL.runs_D15, DL.runs_D16, DL.runs_D17, DL.runs_D19, DL.runs_D20, DL.runs_D23, DL.runs_D24, DL.runs_D25, DL.runs_D26, DL.runs_D31, DL.runs_D34, DL.runs_D36, DL.runs_mir, DL.runs_sp_exec, Nat.reduceSub, Nat.reduceAdd, Nat.reduceLT, true_and, hz]
  refine loop_choices g fun o1 o2 => ?_
  simp -implicitDefEqProofs only [word_snoc, DL.runs_D14, DL.runs_D15, DL.runs_D16, DL.runs_D17, DL.runs_D19, DL.runs_D20, DL.runs_D23, DL.runs_D24, DL.runs_D25, DL.runs_D26, DL.runs_D31, DL.runs_D34, DL.runs_D36, DL.runs_mir, DL.runs_sp_exec, Nat.reduceSub, Nat.reduceAdd, Nat.reduceLT, true_and]
  exact q
theorem Maker_written_wp {m : MkD} (q : Q m.row s) : d_Maker_written [m.ins] s Q E := by
  unfold d_Maker_written b_Maker_written MkD.ins
  simp -implicitDefEqProofs only [word_snoc, DL.runs_D14, DL.runs_D15, DL.runs_D16, DL.runs_D17, DL.runs_D19, DL.runs_D20, DL.runs_D23, DL.runs_D24, DL.runs_D25, DL.runs_D26, DL.runs_D31, DL.runs_D34, DL.runs_D36, DL.runs_mir, DL.runs_sp_exec, Nat.reduceSub, Nat.reduceAdd, Nat.reduceLT, true_and]
  exact q
theorem okEs_strs : ∀ {cs : List Str}, okEs (cs.map .str) = true ↔ ∀ c ∈ cs, PyData.strOk c = true
  | [] => ⟨fun _ _ h => (by cases h), fun _ => rfl⟩
  | c :: cs => by
    show (PyData.strOk c && okEs (cs.map .str)) = true ↔ _
    rw [Bool.and_eq_true, okEs_strs]
    simp
theorem t_ok : ∀ p ∈ t_CHOICES, okE p.2 = true := by decide +kernel
theorem Chs.ok : ∀ {ps : List (Str × Str)}, Chs ps → ∀ p ∈ ps, PyData.strOk p.2 = true
  | _, .nil, _, h => by cases h
  | _, .cons chs h1 h2 h3 h, p, hp => by
    rcases List.mem_cons.mp hp with rfl | hp
    · have := t_ok _ (lookup_mem h1)
      unfold okE at this
      exact okEs_strs.mp this _ h2
    · exact h.ok p hp
theorem MkD.ok {m : MkD} (g : m.Good) : okEs (m.list.map .str) = true := okEs_strs.mpr fun c hc => by
  have hl : ruleL.length = m.list.length := rfl
  obtain ⟨i, hi, rfl⟩ := List.getElem_of_mem hc
  have h2 : (ruleL[i]'(hl ▸ hi), m.list[i]) ∈ ruleL.zip m.list := by
    rw [List.mem_iff_getElem]
    refine ⟨i, by simp [hl]; exact hi, ?_⟩
    rw [List.getElem_zip]
    rfl
  exact Chs.ok g _ h2
theorem dep_strs : ∀ {cs : List Str}, depEs (cs.map .str) = 0
  | [] => rfl
  | c :: cs => by
    show max 0 (depEs (cs.map .str)) = 0
    rw [dep_strs]; rfl
theorem mix_strs : ∀ {cs ds : List Str}, noMixs (cs.map .str) (ds.map .str) = true
  | [], ds => by cases ds <;> rfl
  | _ :: _, [] => rfl
  | c :: cs, d :: ds => by
    show (true && noMixs (cs.map .str) (ds.map .str)) = true
    rw [mix_strs]; rfl
theorem mk_inj {m m' : MkD} (h : m.row = m'.row) : m = m' := by
  obtain ⟨⟩ := m
  obtain ⟨⟩ := m'
  simp [MkD.row, MkD.list] at h
  simp [h]
theorem eq_mk {m m' : MkD} (g : m.Good) (g' : m'.Good) : eqD m.row m'.row s = some (.bl (decide (m = m'))) := by
  obtain ⟨b, h1, h2⟩ := eqD_tup (s := s) (xs := m.list.map .str) (y := m'.row) rfl (MkD.ok g) (by unfold MkD.row okE; exact MkD.ok g') (by rw [dep_strs]; decide) (by unfold MkD.row depE; rw [dep_strs]; decide) (by unfold MkD.row noMix; exact mix_strs)
  have e : b = decide (m = m') := by
    rw [Bool.eq_iff_iff, h2, decide_eq_true_eq]
    exact ⟨mk_inj, fun h => by rw [h]; rfl⟩
  rw [← e]
  exact h1
theorem Maker_eq_wp {m m' : MkD} (g : m.Good) (g' : m'.Good) (q : Q (.bl (decide (m = m'))) s) : d_Maker_eq [m.ins, m'.ins] s Q E := by
  unfold d_Maker_eq b_Maker_eq
  have h1 : isiD ownC [m'.ins, .cls "Maker"] s = some (.bl true) := by
    rw [MkD.ins, isi_ins_cls (by decide) (by decide)]; rfl
  have h3 : insOk "Maker" "written" m.ins s = some () := rfl
  have h4 : insOk "Maker" "written" m'.ins s = some () := rfl
  simp -implicitDefEqProofs only [word_snoc, DL.runs_D14, DL.runs_D15, DL.runs_D16, DL.runs_D17, DL.runs_D19, DL.runs_D20, DL.runs_D23, DL.runs_D24, DL.runs_D25, DL.runs_D26, DL.runs_D31, DL.runs_D34, DL.runs_D36, DL.runs_mir, DL.runs_sp_exec, Nat.reduceSub, Nat.reduceAdd, Nat.reduceLT, true_and, h1, h3, h4]
  refine Maker_written_wp ?_
  simp -implicitDefEqProofs only [word_snoc, DL.runs_D14, DL.runs_D15, DL.runs_D16, DL.runs_D17, DL.runs_D19, DL.runs_D20, DL.runs_D23, DL.runs_D24, DL.runs_D25, DL.runs_D26, DL.runs_D31, DL.runs_D34, DL.runs_D36, DL.runs_mir, DL.runs_sp_exec, Nat.reduceSub, Nat.reduceAdd, Nat.reduceLT, true_and, h4]
  refine Maker_written_wp ?_
  simp -implicitDefEqProofs only [word_snoc, DL.runs_D14, DL.runs_D15, DL.runs_D16, DL.runs_D17, DL.runs_D19, DL.runs_D20, DL.runs_D23, DL.runs_D24, DL.runs_D25, DL.runs_D26, DL.runs_D31, DL.runs_D34, DL.runs_D36, DL.runs_mir, DL.runs_sp_exec, eq_mk g g']
  exact q
end
end DL
namespace DL
open PySem L2
section
variable {s : S} {Q : D → S → Prop} {E : Ex → S → Prop}
theorem fldK_name {k : KD} {s : S} : fldD "Kind" "name" k.ins s = some (.str k.name) := rfl
theorem fldK_base {k : KD} {s : S} : fldD "Kind" "base" k.ins s = some (oStr k.base) := rfl
def kindAt (ks : List KD) (nm : Str) : Option KD := ks.find? fun k => decide (k.name = nm)
def kindO : Option KD → D
  | none => .non
  | some k => k.ins
theorem loop_first {QF : Fl → S → Prop} {EE : Ex × Env → S → Prop} {x0 : Option D} {nm : Str} : ∀ {ks : List KD} {o : Option D}, (∀ o', kindAt ks nm = none → QF (.nx [x0, some (.str nm), o']) s) → (∀ k, kindAt ks nm = some k → QF (.rt k.ins) s) →
    loopS (fun _ => True) (toName 2) (ifS (liftT (op2 eqD (fldE "Kind" "name" (var 2)) (var 1))) (retS (var 2)) nilS) (ks.map KD.ins) [x0, some (.str nm), o] s QF EE
  | [], o, h1, h2 => ⟨trivial, h1 o rfl⟩
  | k :: ks, o, h1, h2 => by
    rw [List.map_cons, x_loop_cons]
    refine ⟨trivial, _, rfl, ?_⟩
    simp -implicitDefEqProofs only [word_snoc, DL.runs_D14, DL.runs_D15, DL.runs_D16, DL.runs_D17, DL.runs_D19, DL.runs_D20, DL.runs_D23, DL.runs_D24, DL.runs_D25, DL.runs_D26, DL.runs_D31, DL.runs_D34, DL.runs_D36, DL.runs_mir, DL.runs_sp_exec, Nat.reduceSub, Nat.reduceAdd, fldK_name]
    by_cases e : k.name = nm
    · rw [decide_eq_true e, selB_t]
      exact h2 k (by unfold kindAt; rw [List.find?_cons_of_pos (by simpa using e)])
    · rw [decide_eq_false e, selB_f]
      refine loop_first (fun o' h => h1 o' ?_) (fun k' h => h2 k' ?_) <;> (unfold kindAt at h ⊢; rw [List.find?_cons_of_neg (by simpa using e)]; exact h)
theorem first_kind_wp {ks : List KD} {nm : Str} (hl : ks.length ≤ sizeLine) (q : Q (kindO (kindAt ks nm)) s) : d_first_kind [.tup (ks.map KD.ins), .str nm] s Q E := by
  unfold d_first_kind b_first_kind
  have hs : (if (ks.map KD.ins).length ≤ sizeLine then some (⟨ks.map KD.ins, fun _ => True⟩ : Src) else none) = some ⟨ks.map KD.ins, fun _ => True⟩ := if_pos (by rw [List.length_map]; exact hl)
  simp -implicitDefEqProofs only [word_snoc, DL.runs_D14, DL.runs_D15, DL.runs_D16, DL.runs_D17, DL.runs_D19, DL.runs_D20, DL.runs_D23, DL.runs_D24, DL.runs_D25, DL.runs_D26, DL.runs_D31, DL.runs_D34, DL.runs_D36, DL.runs_mir, DL.runs_sp_exec, Nat.reduceSub, Nat.reduceAdd, hs]
  refine loop_first (fun o' h => ?_) (fun k h => ?_)
  · rw [h] at q
    simp -implicitDefEqProofs only [word_snoc, DL.runs_D14, DL.runs_D15, DL.runs_D16, DL.runs_D17, DL.runs_D19, DL.runs_D20, DL.runs_D23, DL.runs_D24, DL.runs_D25, DL.runs_D26, DL.runs_D31, DL.runs_D34, DL.runs_D36, DL.runs_mir, DL.runs_sp_exec]
    exact q
  · rw [h] at q
    simp -implicitDefEqProofs only [word_snoc, DL.runs_D14, DL.runs_D15, DL.runs_D16, DL.runs_D17, DL.runs_D19, DL.runs_D20, DL.runs_D23, DL.runs_D24, DL.runs_D25, DL.runs_D26, DL.runs_D31, DL.runs_D34, DL.runs_D36, DL.runs_mir, DL.runs_sp_exec]
    exact q
theorem cut_take {xs : List D} {i : Nat} (h : i ≤ xs.length) : cutD xs none (some (i : Int)) = xs.take i := by
  have h1 : HT.sIx xs.length 0 none = 0 := rfl
  have h2 : HT.sIx xs.length xs.length (some (i : Int)) = i := by
    rw [HT.sIx_nat]
    omega
  unfold cutD
  rw [h1, h2]; simp
theorem ints_eq {n : Nat} : intsD 0 n = (List.range n).map fun i : Nat => D.int (i : Int) := by
  unfold intsD
  refine List.map_congr_left fun i _ => ?_
  simp
structure FamGood (ks : List KD) : Prop where
  most : ks.length ≤ 16
  good : ∀ k ∈ ks, k.Good
  once : ∀ i (h : i < ks.length), kindAt (ks.take i) ks[i].name = none
  base : ∀ i (h : i < ks.length) b, ks[i].base = some b → kindAt (ks.take i) b ≠ none
def kindsD (ks : List KD) : D := .tup (ks.map KD.ins)
def famD (m : MkD) (ks : List KD) : D := .ins "Family" ["maker", "kinds"] [m.ins, kindsD ks]
theorem enum_kinds {ks : List KD} : enumD (ks.map KD.ins) = (List.range ks.length).pmap (fun i h => .tup [.int (i : Nat), (ks[i]'h).ins]) (fun i h => List.mem_range.mp h) := by
  unfold enumD
  rw [List.length_map, ints_eq]
  refine List.ext_getElem (by simp) fun i h1 h2 => ?_
  simp
end
end DL
namespace DL
open PySem L2
section
variable {s : S} {Q : D → S → Prop} {E : Ex → S → Prop}
theorem x_iterET {as : Env → M Ex (List D)} {ρ : Env} {s : S} {QI : Src → S → Prop} {E : Ex → S → Prop} : iterET as ρ s QI E = as ρ s (fun ds s1 => ∃ v, ((one ds).bind fun d => (tupOf d).bind fun xs => if xs.length ≤ sizeLine then some (⟨enumD xs, fun _ => True⟩ : Src) else none) = some v ∧ QI v s1) E := rfl
theorem one_one {d : D} : one [d] = some d := rfl
theorem sl_tup {xs : List D} {lo hi : Option Int} : slD (.tup xs) lo hi = some (.tup (cutD xs lo hi)) := rfl
theorem ite_src {xs ys : List D} {P : S → Prop} (h : xs.length ≤ sizeLine) : (if xs.length ≤ sizeLine then some (⟨ys, P⟩ : Src) else none) = some ⟨ys, P⟩ := if_pos h
theorem cut_kinds {ks : List KD} {i : Nat} (h : i ≤ ks.length) : cutD (ks.map KD.ins) none (some (i : Int)) = (ks.take i).map KD.ins := by
  rw [cut_take (by simpa using h), List.map_take]
theorem kindO_non {o : Option KD} : isNon (kindO o) = o.isNone := by cases o <;> rfl
theorem oStr_non {o : Option Str} : isNon (oStr o) = o.isNone := by cases o <;> rfl
theorem FamGood.sz {ks : List KD} (g : FamGood ks) : ks.length ≤ sizeLine := Nat.le_trans g.most (by decide)
theorem Family_init_wp {a : Addr} {m : D} {ks : List KD} (g : FamGood ks) (q : Q .non (s.set a (.ins "Family" [("maker", m), ("kinds", kindsD ks)]))) : d_Family_init [.ref a, m, kindsD ks] (s.set a (.ins "Family" [])) Q E := by
  unfold d_Family_init b_Family_init kindsD
  have hl : decide (((16 : Int)) < ((ks.map KD.ins).length : Int)) = false := decide_eq_false (by have := g.most; simp; omega)
  have hz : (ks.map KD.ins).length ≤ sizeLine := by simpa using g.sz
  simp -implicitDefEqProofs -failIfUnchanged only [word_snoc, DL.runs_D14, DL.runs_D15, DL.runs_D16, DL.runs_D17, DL.runs_D19, DL.runs_D20, DL.runs_D23, DL.runs_D24, DL.runs_D25, DL.runs_D26, DL.runs_D31, DL.runs_D34, DL.runs_D36, DL.runs_mir, DL.runs_sp_exec, x_iterET, one_one, sl_tup, Nat.reduceSub, Nat.reduceAdd, Nat.reduceLT, true_and, cc_Family_MOST_KINDS, hl, ite_src hz]
  rw [enum_kinds]
  refine loop_inv (fun ds ρ s' => s' = s.set a (.ins "Family" []) ∧ ∃ i, i ≤ ks.length ∧ ds = ((List.range ks.length).pmap (fun i h => D.tup [.int (i : Nat), (ks[i]'h).ins]) (fun i h => List.mem_range.mp h)).drop i ∧ ∃ o1 o2, ρ = [some (.ref a), some m, some (.tup (ks.map KD.ins)), o1, o2]) _ _ _ ⟨rfl, 0, Nat.zero_le _, rfl, _, _, rfl⟩ ?_ ?_
  · rintro d ds ρ s' ⟨rfl, i, hi, hd, o1, o2, rfl⟩
    refine ⟨trivial, ?_⟩
    have hi2 : i < ks.length := by
      refine Nat.lt_of_le_of_ne hi fun e => ?_
      subst e
      rw [List.drop_eq_nil_of_le (by simp)] at hd
      cases hd
    rw [List.drop_eq_getElem_cons (by simpa using hi2)] at hd
    obtain ⟨h1, h2⟩ := List.cons.inj hd
    subst h1 h2
    simp only [List.getElem_pmap, List.getElem_range]
    refine ⟨_, rfl, ?_⟩
    have hsl : ((ks.take i)).length ≤ sizeLine := Nat.le_trans (by simp; omega) g.sz
    simp -implicitDefEqProofs -failIfUnchanged only [word_snoc, DL.runs_D14, DL.runs_D15, DL.runs_D16, DL.runs_D17, DL.runs_D19, DL.runs_D20, DL.runs_D23, DL.runs_D24, DL.runs_D25, DL.runs_D26, DL.runs_D31, DL.runs_D34, DL.runs_D36, DL.runs_mir, DL.runs_sp_exec, x_iterET, one_one, sl_tup, Nat.reduceSub, Nat.reduceAdd, Nat.reduceLT, true_and, fldK_name, fldK_base, cut_kinds (Nat.le_of_lt hi2)]
    refine first_kind_wp hsl ?_
    simp -implicitDefEqProofs -failIfUnchanged only [word_snoc, DL.runs_D14, DL.runs_D15, DL.runs_D16, DL.runs_D17, DL.runs_D19, DL.runs_D20, DL.runs_D23, DL.runs_D24, DL.runs_D25, DL.runs_D26, DL.runs_D31, DL.runs_D34, DL.runs_D36, DL.runs_mir, DL.runs_sp_exec, x_iterET, one_one, sl_tup, Nat.reduceSub, Nat.reduceAdd, Nat.reduceLT, true_and, kindO_non, oStr_non, g.once i hi2, Option.isNone]
    cases hb : ks[i].base with
    | none =>
      simp -implicitDefEqProofs -failIfUnchanged only [word_snoc, DL.runs_D14, DL.runs_D15, DL.runs_D16, DL.runs_D17, DL.runs_D19, DL.runs_D20, DL.runs_D23, DL.runs_D24, DL.runs_D25, DL.runs_D26, DL.runs_D31, DL.runs_D34, DL.runs_D36, DL.runs_mir, DL.runs_sp_exec, x_iterET, one_one, sl_tup, Nat.reduceSub, Nat.reduceAdd, Nat.reduceLT, true_and]
      exact ⟨i + 1, hi2, rfl, _, _, rfl⟩
    | some b =>
      simp -implicitDefEqProofs -failIfUnchanged only [word_snoc, DL.runs_D14, DL.runs_D15, DL.runs_D16, DL.runs_D17, DL.runs_D19, DL.runs_D20, DL.runs_D23, DL.runs_D24, DL.runs_D25, DL.runs_D26, DL.runs_D31, DL.runs_D34, DL.runs_D36, DL.runs_mir, DL.runs_sp_exec, x_iterET, one_one, sl_tup, Nat.reduceSub, Nat.reduceAdd, Nat.reduceLT, true_and, cut_kinds (Nat.le_of_lt hi2)]
      refine first_kind_wp hsl ?_
      have hn := g.base i hi2 b hb
      cases hk : kindAt (ks.take i) b with
      | none => exact absurd hk hn
      | some k =>
        simp -implicitDefEqProofs -failIfUnchanged only [word_snoc, DL.runs_D14, DL.runs_D15, DL.runs_D16, DL.runs_D17, DL.runs_D19, DL.runs_D20, DL.runs_D23, DL.runs_D24, DL.runs_D25, DL.runs_D26, DL.runs_D31, DL.runs_D34, DL.runs_D36, DL.runs_mir, DL.runs_sp_exec, x_iterET, one_one, sl_tup, Nat.reduceSub, Nat.reduceAdd, Nat.reduceLT, true_and, kindO_non, Option.isNone]
        exact ⟨i + 1, hi2, rfl, _, _, rfl⟩
  · rintro ρ s' ⟨rfl, i, hi, hd, o1, o2, rfl⟩
    refine ⟨trivial, ?_⟩
    simp -implicitDefEqProofs -failIfUnchanged only [word_snoc, DL.runs_D14, DL.runs_D15, DL.runs_D16, DL.runs_D17, DL.runs_D19, DL.runs_D20, DL.runs_D23, DL.runs_D24, DL.runs_D25, DL.runs_D26, DL.runs_D31, DL.runs_D34, DL.runs_D36, DL.runs_mir, DL.runs_sp_exec, x_iterET, one_one, sl_tup, Nat.reduceSub, Nat.reduceAdd, Nat.reduceLT, true_and]
    exact q
theorem seq_lst {xs : List D} {s : S} : seqD s (.lst xs) = some xs := rfl
theorem seq_tup {xs : List D} {s : S} : seqD s (.tup xs) = some xs := rfl
theorem Family_of_wp {m : D} {ks : List KD} (g : FamGood ks) (q : Q (.ins "Family" ["maker", "kinds"] [m, kindsD ks]) s) : d_Family_of [.cls "Family", m, .lst (ks.map KD.ins)] s Q E := by
  unfold d_Family_of b_Family_of
  simp -implicitDefEqProofs -failIfUnchanged only [word_snoc, DL.runs_D14, DL.runs_D15, DL.runs_D16, DL.runs_D17, DL.runs_D19, DL.runs_D20, DL.runs_D23, DL.runs_D24, DL.runs_D25, DL.runs_D26, DL.runs_D31, DL.runs_D34, DL.runs_D36, DL.runs_mir, DL.runs_sp_exec, x_iterET, one_one, sl_tup, seq_lst, seq_tup, Nat.reduceSub, Nat.reduceAdd, Nat.reduceLT, true_and]
  intro a ha
  rw [List.append_nil]
  unfold f_Family_init_star
  rw [x_starF (by simp) (by have := g.sz; simp; omega)]
  refine Family_init_wp (m := m) g ?_
  simp -implicitDefEqProofs -failIfUnchanged only [word_snoc, DL.runs_D14, DL.runs_D15, DL.runs_D16, DL.runs_D17, DL.runs_D19, DL.runs_D20, DL.runs_D23, DL.runs_D24, DL.runs_D25, DL.runs_D26, DL.runs_D31, DL.runs_D34, DL.runs_D36, DL.runs_mir, DL.runs_sp_exec, x_iterET, one_one, sl_tup, seq_lst, seq_tup, Nat.reduceSub, Nat.reduceAdd, Nat.reduceLT, true_and, ha]
  exact q
end
end DL
namespace DL
def runs_sp_fam2 := And.intro @x_iterET (And.intro @one_one (And.intro @sl_tup (And.intro @seq_lst (@seq_tup))))
end DL
namespace DL
open PySem L2
section
variable {s : S} {Q : D → S → Prop} {E : Ex → S → Prop}
def rcs : List (Str × List Str) := ruleL.zip chL
def tableD : D := .lst (rcs.map fun p => .tup [.str p.1, .tup (p.2.map .str)])
theorem table_wp (q : Q tableD s) : d_table [] s Q E := by
  unfold d_table b_table
  simp -implicitDefEqProofs -failIfUnchanged only [word_snoc, DL.runs_D14, DL.runs_D15, DL.runs_D16, DL.runs_D17, DL.runs_D19, DL.runs_D20, DL.runs_D23, DL.runs_D24, DL.runs_D25, DL.runs_D26, DL.runs_D31, DL.runs_D34, DL.runs_D36, DL.runs_mir, DL.runs_sp_exec, DL.runs_sp_fam2, Nat.reduceSub, Nat.reduceAdd, Nat.reduceLT, true_and]
  exact q
theorem ix_strs {cs : List Str} {v : Int} (h0 : 0 ≤ v) (h1 : v < cs.length) : ∃ c, c ∈ cs ∧ ixD (.tup (cs.map .str)) (.int v) s = some (.str c) := by
  obtain ⟨d, h2, h3⟩ := atI_pos (xs := cs.map D.str) h0 (by simpa using h1)
  obtain ⟨c, hc, rfl⟩ := List.mem_map.mp h3
  exact ⟨c, hc, h2⟩
def rulesD (m : MkD) : D := .dic (ruleL.map .inr) (m.list.map .str)
theorem mk_of_list {cs : List (Str × Str)} (h : cs.map (·.1) = ruleL) : ∃ m : MkD, cs = ruleL.zip m.list := by
  match cs, h with
  | [⟨a0, b0⟩, ⟨a1, b1⟩, ⟨a2, b2⟩, ⟨a3, b3⟩, ⟨a4, b4⟩, ⟨a5, b5⟩, ⟨a6, b6⟩, ⟨a7, b7⟩, ⟨a8, b8⟩, ⟨a9, b9⟩], h =>
    refine ⟨⟨b0, b1, b2, b3, b4, b5, b6, b7, b8, b9⟩, ?_⟩
    simp only [List.map_cons, List.map_nil, ruleL, List.cons.injEq] at h
    obtain ⟨rfl, rfl, rfl, rfl, rfl, rfl, rfl, rfl, rfl, rfl, _⟩ := h
    rfl
structure RcOk (p : Str × List Str) : Prop where
  at_ : t_CHOICES.lookup p.1 = some (.tup (p.2.map .str))
  some_ : 0 < p.2.length
  few : p.2.length < 10
  short : ∀ c ∈ p.2, c.length ≤ sizeLine
theorem rcs_ok : ∀ p ∈ rcs, RcOk p := by
  intro p hp
  have h : ∀ p ∈ rcs, 0 < p.2.length ∧ p.2.length < 10 ∧ ∀ c ∈ p.2, c.length ≤ sizeLine := by decide +kernel
  have h2 : ∀ p ∈ rcs, (match t_CHOICES.lookup p.1 with | some (.tup xs) => decide (strsOf xs = some p.2) | _ => false) = true := by decide +kernel
  obtain ⟨h3, h4, h5⟩ := h p hp
  refine ⟨?_, h3, h4, h5⟩
  have h6 := h2 p hp
  split at h6
  · rename_i xs e
    rw [e]
    have h7 : strsOf xs = some p.2 := of_decide_eq_true h6
    have : ∀ (xs : List D) (ys : List Str), strsOf xs = some ys → xs = ys.map .str := by
      intro xs
      induction xs with
      | nil => intro ys h; cases h; rfl
      | cons x r ih =>
        intro ys h
        cases x with
        | str z =>
          obtain ⟨ys', h8, rfl⟩ := Option.map_eq_some_iff.mp (show (strsOf r).map (fun r => z :: r) = some ys from h)
          rw [ih _ h8]; rfl
        | _ => cases h
    rw [this _ _ h7]
  · cases h6
theorem put_new {kvs : List (Key × D)} {k : Key} {v : D} (h : k ∉ kvs.map (·.1)) : putKD kvs k v = kvs ++ [(k, v)] := by
  unfold putKD
  rw [if_neg]
  intro h2
  obtain ⟨kv, h3, h4⟩ := List.any_eq_true.mp h2
  exact h (List.mem_map.mpr ⟨kv, h3, of_decide_eq_true h4⟩)
def strKV (acc : List (Str × Str)) : List (Key × D) := acc.map fun p => (.inr p.1, .str p.2)
theorem strKV_keys (acc : List (Str × Str)) : (strKV acc).map (·.1) = acc.map fun p => .inr p.1 := by simp [strKV]
theorem rules_loop {QF : Fl → S → Prop} {EE : Ex × Env → S → Prop} {a b c : Addr} (hb : s.map b = some (.bag c)) (ha : s.map a = none) : ∀ {ps : List (Str × List Str)} {acc : List (Str × Str)} {o : Option D}, (acc.map (·.1) ++ ps.map (·.1)).Nodup → acc.length + ps.length ≤ 100 → (∀ p ∈ ps, RcOk p) → Chs acc →
    (∀ cs o', Chs cs → cs.map (·.1) = acc.map (·.1) ++ ps.map (·.1) → QF (.nx [some (.ref b), some (.ref a), o']) (s.set a (.dic (strKV cs)))) →
    loopS (fun _ => True) (toName 2) (keyS (var 1) (op2 ixD (var 2) (cst (.int 0))) (op2 ixD (op2 ixD (var 2) (cst (.int 1))) (callE f_draw_2 (argsC (var 0) (argsC (prim lenD (argsC (op2 ixD (var 2) (cst (.int 1))) argsN)) argsN)) argsN))) (ps.map fun p => .tup [.str p.1, .tup (p.2.map .str)]) [some (.ref b), some (.ref a), o] (s.set a (.dic (strKV acc))) QF EE
  | [], acc, o, _, _, _, hc, q => ⟨trivial, q acc o hc (by simp)⟩
  | p :: ps, acc, o, nd, hl, hp, hc, q => by
    rw [List.map_cons, x_loop_cons]
    refine ⟨trivial, _, rfl, ?_⟩
    have k := hp p List.mem_cons_self
    simp -implicitDefEqProofs -failIfUnchanged only [word_snoc, DL.runs_D14, DL.runs_D15, DL.runs_D16, DL.runs_D17, DL.runs_D19, DL.runs_D20, DL.runs_D23, DL.runs_D24, DL.runs_D25, DL.runs_D26, DL.runs_D31, DL.runs_D34, DL.runs_D36, DL.runs_mir, DL.runs_sp_exec, DL.runs_sp_fam2, Nat.reduceSub, Nat.reduceAdd, Nat.reduceLT, true_and]
    refine draw_wp (map_keep hb ha) (by have := k.some_; simp; omega) (by have := k.few; simp; omega) fun v v0 v1 => ?_
    obtain ⟨x, h3, h4⟩ := ix_strs (s := s.set a (.dic (strKV acc))) (cs := p.2) v0 (by simpa using v1)
    simp -implicitDefEqProofs -failIfUnchanged only [word_snoc, DL.runs_D14, DL.runs_D15, DL.runs_D16, DL.runs_D17, DL.runs_D19, DL.runs_D20, DL.runs_D23, DL.runs_D24, DL.runs_D25, DL.runs_D26, DL.runs_D31, DL.runs_D34, DL.runs_D36, DL.runs_mir, DL.runs_sp_exec, DL.runs_sp_fam2, Nat.reduceSub, Nat.reduceAdd, Nat.reduceLT, true_and, h4]
    refine ⟨lt_sz (by simp [strKV] at *; omega), ?_⟩
    have hk : (Sum.inr p.1 : Key) ∉ (strKV acc).map (·.1) := by
      rw [strKV_keys]
      intro h
      obtain ⟨q2, h5, h6⟩ := List.mem_map.mp h
      have h7 : q2.1 = p.1 := Sum.inr.inj h6
      have := (List.nodup_append.mp nd).2.2
      exact this _ (List.mem_map.mpr ⟨q2, h5, rfl⟩) _ (by simp) h7
    rw [put_new hk]
    have e : strKV acc ++ [(Sum.inr p.1, D.str x)] = strKV (acc ++ [(p.1, x)]) := by simp [strKV]
    rw [e]
    have app : ∀ {acc : List (Str × Str)} {y : Str × Str}, Chs acc → Chs [y] → Chs (acc ++ [y]) := by
      intro acc y h1 h2
      induction h1 with
      | nil => exact h2
      | cons chs h3 h4 h5 h6 ih => exact .cons chs h3 h4 h5 ih
    refine rules_loop hb ha (by simpa using nd) (by simp at hl ⊢; omega) (fun z hz => hp z (List.mem_cons_of_mem _ hz)) (app hc (.cons p.2 k.at_ h3 (k.short _ h3) .nil)) fun cs o' h5 h6 => q cs o' h5 (by simpa using h6)
theorem rules_wp {b c : Addr} (hb : s.map b = some (.bag c)) (q : ∀ m : MkD, m.Good → Q (rulesD m) s) : d_rules [.ref b] s Q E := by
  unfold d_rules b_rules
  simp -implicitDefEqProofs -failIfUnchanged only [word_snoc, DL.runs_D14, DL.runs_D15, DL.runs_D16, DL.runs_D17, DL.runs_D19, DL.runs_D20, DL.runs_D23, DL.runs_D24, DL.runs_D25, DL.runs_D26, DL.runs_D31, DL.runs_D34, DL.runs_D36, DL.runs_mir, DL.runs_sp_exec, DL.runs_sp_fam2, Nat.reduceSub, Nat.reduceAdd, Nat.reduceLT, true_and]
  intro a ha
  refine table_wp ?_
  unfold tableD
  simp -implicitDefEqProofs -failIfUnchanged only [word_snoc, DL.runs_D14, DL.runs_D15, DL.runs_D16, DL.runs_D17, DL.runs_D19, DL.runs_D20, DL.runs_D23, DL.runs_D24, DL.runs_D25, DL.runs_D26, DL.runs_D31, DL.runs_D34, DL.runs_D36, DL.runs_mir, DL.runs_sp_exec, DL.runs_sp_fam2, Nat.reduceSub, Nat.reduceAdd, Nat.reduceLT, true_and, ite_src (show (rcs.map fun p => D.tup [.str p.1, .tup (p.2.map .str)]).length ≤ sizeLine by decide)]
  refine rules_loop hb ha (acc := []) (ps := rcs) (by decide) (by decide) rcs_ok .nil fun cs o' h1 h2 => ?_
  obtain ⟨m, rfl⟩ := mk_of_list (cs := cs) (by rw [h2]; rfl)
  simp -implicitDefEqProofs -failIfUnchanged only [word_snoc, DL.runs_D14, DL.runs_D15, DL.runs_D16, DL.runs_D17, DL.runs_D19, DL.runs_D20, DL.runs_D23, DL.runs_D24, DL.runs_D25, DL.runs_D26, DL.runs_D31, DL.runs_D34, DL.runs_D36, DL.runs_mir, DL.runs_sp_exec, DL.runs_sp_fam2, Nat.reduceSub, Nat.reduceAdd, Nat.reduceLT, true_and, freezeE_dic ha]
  exact q m h1
theorem val_rule {m : MkD} {i : Nat} (h : i < 10) : dgetD (rulesD m) (.str (ruleL[i]'h)) s = some (.str (m.list[i]'h)) := by
  match i, h with
  | 0, _ => rfl
  | 1, _ => rfl
  | 2, _ => rfl
  | 3, _ => rfl
  | 4, _ => rfl
  | 5, _ => rfl
  | 6, _ => rfl
  | 7, _ => rfl
  | 8, _ => rfl
  | 9, _ => rfl
theorem get_rule {m : MkD} {p : Str × Str} (h : p ∈ ruleL.zip m.list) : dgetD (rulesD m) (.str p.1) s = some (.str p.2) := by
  obtain ⟨i, hi, rfl⟩ := List.getElem_of_mem h
  have hi' : i < 10 := by simpa [ruleL, MkD.list] using hi
  rw [List.getElem_zip]
  exact val_rule hi'
end
end DL
namespace DL
open PySem L2
section
variable {s : S} {Q : D → S → Prop} {E : Ex → S → Prop}
theorem rcs_fst {i : Nat} (h : i < rcs.length) (h2 : i < 10) : (rcs[i]'h).1 = ruleL[i]'h2 := by
  match i, h, h2 with
  | 0, _, _ => rfl
  | 1, _, _ => rfl
  | 2, _, _ => rfl
  | 3, _, _ => rfl
  | 4, _, _ => rfl
  | 5, _, _ => rfl
  | 6, _, _ => rfl
  | 7, _, _ => rfl
  | 8, _, _ => rfl
  | 9, _, _ => rfl
theorem maker_wp {m : MkD} (g : m.Good) (q : Q m.ins s) : d_maker [rulesD m] s Q E := by
  unfold d_maker b_maker
  simp -implicitDefEqProofs -failIfUnchanged only [word_snoc, DL.runs_D14, DL.runs_D15, DL.runs_D16, DL.runs_D17, DL.runs_D19, DL.runs_D20, DL.runs_D23, DL.runs_D24, DL.runs_D25, DL.runs_D26, DL.runs_D31, DL.runs_D34, DL.runs_D36, DL.runs_mir, DL.runs_sp_exec, DL.runs_sp_fam2, Nat.reduceSub, Nat.reduceAdd, Nat.reduceLT, true_and]
  refine table_wp ?_
  unfold tableD
  simp -implicitDefEqProofs -failIfUnchanged only [word_snoc, DL.runs_D14, DL.runs_D15, DL.runs_D16, DL.runs_D17, DL.runs_D19, DL.runs_D20, DL.runs_D23, DL.runs_D24, DL.runs_D25, DL.runs_D26, DL.runs_D31, DL.runs_D34, DL.runs_D36, DL.runs_mir, DL.runs_sp_exec, DL.runs_sp_fam2, Nat.reduceSub, Nat.reduceAdd, Nat.reduceLT, true_and, ite_src (show (rcs.map fun p => D.tup [.str p.1, .tup (p.2.map .str)]).length ≤ sizeLine by decide)]
  refine lc_inv (fun ds acc s' => s' = s ∧ ∃ i, i ≤ 10 ∧ ds = (rcs.map fun p => D.tup [.str p.1, .tup (p.2.map .str)]).drop i ∧ acc = (m.list.take i).map .str) _ _ _ ⟨rfl, 0, Nat.zero_le _, rfl, rfl⟩ ?_ ?_
  · rintro d ds acc s' ⟨rfl, i, hi, hd, rfl⟩
    refine ⟨trivial, ?_⟩
    have hi2 : i < 10 := by
      refine Nat.lt_of_le_of_ne hi fun e => ?_
      subst e
      cases hd
    rw [List.drop_eq_getElem_cons (show i < (rcs.map fun p => D.tup [.str p.1, .tup (p.2.map .str)]).length from hi2)] at hd
    obtain ⟨h1, h2⟩ := List.cons.inj hd
    subst h1 h2
    rw [List.getElem_map]
    refine ⟨_, rfl, ?_⟩
    have hi3 : i < rcs.length := hi2
    have e : (rcs[i]'hi3).1 = ruleL[i]'hi2 := rcs_fst hi3 hi2
    have hv : dgetD (rulesD m) (.str (rcs[i]'hi3).1) s' = some (.str (m.list[i]'hi2)) := by rw [e]; exact val_rule hi2
    simp -implicitDefEqProofs -failIfUnchanged only [word_snoc, DL.runs_D14, DL.runs_D15, DL.runs_D16, DL.runs_D17, DL.runs_D19, DL.runs_D20, DL.runs_D23, DL.runs_D24, DL.runs_D25, DL.runs_D26, DL.runs_D31, DL.runs_D34, DL.runs_D36, DL.runs_mir, DL.runs_sp_exec, DL.runs_sp_fam2, Nat.reduceSub, Nat.reduceAdd, Nat.reduceLT, true_and, hv]
    refine ⟨i + 1, hi2, rfl, ?_⟩
    rw [List.take_succ_eq_append_getElem (show i < m.list.length from hi2), List.map_append]
    rfl
  · rintro acc s' ⟨rfl, i, hi, hd, rfl⟩
    refine ⟨trivial, ?_⟩
    have e : i = 10 := by
      have h := congrArg List.length hd
      have h2 : (rcs.map fun p => D.tup [.str p.1, .tup (p.2.map .str)]).length = 10 := rfl
      rw [List.length_drop, h2] at h
      simp at h
      omega
    subst e
    have e2 : (m.list.take 10).map D.str = [.str m.place, .str m.key, .str m.store, .str m.stopped, .str m.fits, .str m.misfit, .str m.compare, .str m.unlike, .str m.unready, .str m.again] := rfl
    rw [e2]
    simp -implicitDefEqProofs -failIfUnchanged only [word_snoc, DL.runs_D14, DL.runs_D15, DL.runs_D16, DL.runs_D17, DL.runs_D19, DL.runs_D20, DL.runs_D23, DL.runs_D24, DL.runs_D25, DL.runs_D26, DL.runs_D31, DL.runs_D34, DL.runs_D36, DL.runs_mir, DL.runs_sp_exec, DL.runs_sp_fam2, Nat.reduceSub, Nat.reduceAdd, Nat.reduceLT, true_and]
    intro a ha
    refine Maker_init_wp g ?_
    simp -implicitDefEqProofs -failIfUnchanged only [word_snoc, DL.runs_D14, DL.runs_D15, DL.runs_D16, DL.runs_D17, DL.runs_D19, DL.runs_D20, DL.runs_D23, DL.runs_D24, DL.runs_D25, DL.runs_D26, DL.runs_D31, DL.runs_D34, DL.runs_D36, DL.runs_mir, DL.runs_sp_exec, DL.runs_sp_fam2, Nat.reduceSub, Nat.reduceAdd, Nat.reduceLT, true_and, ha]
    exact q
theorem inL_strs {z : Str} {cs : List Str} : inD (.str z) (.lst (cs.map .str)) s = some (.bl (decide (z ∈ cs))) := inB_strs (s := s) (cs := cs)
theorem notIn_lst {z : Str} {cs : List Str} : notInD (.str z) (.lst (cs.map .str)) s = some (.bl (!decide (z ∈ cs))) := by
  have h : (inB s (.str z) (.lst (cs.map .str))).map D.bl = some (.bl (decide (z ∈ cs))) := inL_strs
  show (inB s (.str z) (.lst (cs.map .str))).map (fun b => D.bl (!b)) = _
  cases e : inB s (.str z) (.lst (cs.map .str)) with
  | none => rw [e] at h; cases h
  | some b =>
    rw [e] at h
    have h2 : b = decide (z ∈ cs) := by simpa using h
    rw [h2]; rfl
theorem cut7 {z : Str} : (cutS z none (some 7)).cps.toList = z.cps.toList.take 7 := by
  unfold cutS
  have h1 : HT.sIx z.length z.length (some 7) = min 7 z.length := HT.sIx_nat _ _ 7
  rw [h1]
  show (((z.cps.toList.drop 0).take (min 7 z.length - 0)).toArray).toList = _
  rw [len_list]
  simp [← List.take_eq_take_min]
theorem strSrc_ok {z : Str} (h : z.length ≤ sizeLine) : strSrc (.str z) = some ⟨signs z, fun _ => True⟩ := if_pos h
theorem name7 {z : Str} {c : Nat} (h : isName z = true) (hc : c ∈ letters) : isName (cutS z none (some 7) ++ sg c) = true := by
  obtain ⟨⟨h1, h2⟩, h3⟩ := isName_iff.mp h
  rw [isName_iff, len_list, str_app, cut7]
  refine ⟨by simp [sg]; omega, fun x hx => ?_⟩
  rcases List.mem_append.mp hx with q | q
  · exact h3 x (List.mem_of_mem_take q)
  · have : x = c := by simpa [sg] using q
    rw [this]; exact hc
theorem letters_nodup : letters.Nodup := by decide +kernel
theorem nodup_le {α : Type} [DecidableEq α] : ∀ {xs ys : List α}, xs.Nodup → (∀ x ∈ xs, x ∈ ys) → xs.length ≤ ys.length
  | [], _, _, _ => Nat.zero_le _
  | x :: xs, ys, nd, h => by
    obtain ⟨h1, h2⟩ := List.nodup_cons.mp nd
    have hx := h x List.mem_cons_self
    have := nodup_le (xs := xs) (ys := ys.erase x) h2 fun y hy => by
      rw [List.mem_erase_of_ne (by rintro rfl; exact h1 hy)]
      exact h y (List.mem_cons_of_mem _ hy)
    rw [List.length_erase_of_mem hx] at this
    have := List.length_pos_of_mem hx
    simp only [List.length_cons]
    omega
end
end DL
namespace DL
open PySem L2
section
variable {s : S} {Q : D → S → Prop} {E : Ex → S → Prop}
theorem begin_wp {b c : Addr} (hb : s.map b = some (.bag c)) (q : ∀ p : Option (Str × Bool), (∀ x, p = some x → x.1 ∈ upsL) → Q (begD p) s) : d_begin [.ref b] s Q E := by
  unfold d_begin b_begin
  simp -implicitDefEqProofs -failIfUnchanged only [word_snoc, DL.runs_D14, DL.runs_D15, DL.runs_D16, DL.runs_D17, DL.runs_D19, DL.runs_D20, DL.runs_D23, DL.runs_D24, DL.runs_D25, DL.runs_D26, DL.runs_D31, DL.runs_D34, DL.runs_D36, DL.runs_mir, DL.runs_sp_exec, DL.runs_sp_fam2, Nat.reduceSub, Nat.reduceAdd, Nat.reduceLT, true_and]
  refine draw_wp hb (by decide) (by decide) fun v v0 v1 => ?_
  simp -implicitDefEqProofs -failIfUnchanged only [word_snoc, DL.runs_D14, DL.runs_D15, DL.runs_D16, DL.runs_D17, DL.runs_D19, DL.runs_D20, DL.runs_D23, DL.runs_D24, DL.runs_D25, DL.runs_D26, DL.runs_D31, DL.runs_D34, DL.runs_D36, DL.runs_mir, DL.runs_sp_exec, DL.runs_sp_fam2, Nat.reduceSub, Nat.reduceAdd, Nat.reduceLT, true_and]
  refine selB_of (fun _ => q none (fun x h => by cases h)) fun h => ?_
  have hv : v ≠ 0 := of_decide_eq_false h
  obtain ⟨u, hu, h4⟩ := ix_strs (s := s) (cs := upsL) (v := v - 1) (by omega) (by show v - 1 < 3; omega)
  have e : upsL.map D.str = [.str "first", .str "last", .str "alone"] := rfl
  rw [e] at h4
  replace h4 : atI ([.str "first", .str "last", .str "alone"] : List D) (v - 1) = some (.str u) := h4
  simp -implicitDefEqProofs -failIfUnchanged only [word_snoc, DL.runs_D14, DL.runs_D15, DL.runs_D16, DL.runs_D17, DL.runs_D19, DL.runs_D20, DL.runs_D23, DL.runs_D24, DL.runs_D25, DL.runs_D26, DL.runs_D31, DL.runs_D34, DL.runs_D36, DL.runs_mir, DL.runs_sp_exec, DL.runs_sp_fam2, Nat.reduceSub, Nat.reduceAdd, Nat.reduceLT, true_and, h4]
  refine draw_wp hb (by decide) (by decide) fun w w0 w1 => ?_
  simp -implicitDefEqProofs -failIfUnchanged only [word_snoc, DL.runs_D14, DL.runs_D15, DL.runs_D16, DL.runs_D17, DL.runs_D19, DL.runs_D20, DL.runs_D23, DL.runs_D24, DL.runs_D25, DL.runs_D26, DL.runs_D31, DL.runs_D34, DL.runs_D36, DL.runs_mir, DL.runs_sp_exec, DL.runs_sp_fam2, Nat.reduceSub, Nat.reduceAdd, Nat.reduceLT, true_and]
  exact q (some (u, decide (w = 1))) (fun x h => by cases h; exact hu)
end
end DL
namespace DL
open PySem L2
section
variable {s : S} {Q : D → S → Prop} {E : Ex → S → Prop}
theorem fresh_loop {QF : Fl → S → Prop} {EE : Ex × Env → S → Prop} {b : D} {taken : List Str} {z y : Str} (hy : cutS z none (some 7) = y) (hz : z.length ≤ sizeLine) (hy2 : y.length ≤ 7) : ∀ {cs : List Nat} {o : Option D}, (∀ o', (∀ c ∈ cs, y ++ sg c ∈ taken) → QF (.nx [some b, some (.lst (taken.map .str)), some (.str z), o']) s) → (∀ c ∈ cs, y ++ sg c ∉ taken → QF (.rt (.str (y ++ sg c))) s) →
    loopS (fun _ => True) (toName 3) (ifS (liftT (op2 notInD (op2 addD (sliceE (var 2) partN (partS (cst (.int 7)))) (var 3)) (var 1))) (retS (op2 addD (sliceE (var 2) partN (partS (cst (.int 7)))) (var 3))) nilS) (cs.map fun c => D.str ⟨#[c]⟩) [some b, some (.lst (taken.map .str)), some (.str z), o] s QF EE
  | [], o, q1, q2 => ⟨trivial, q1 o (fun _ h => by cases h)⟩
  | c :: cs, o, q1, q2 => by
    rw [List.map_cons, x_loop_cons]
    refine ⟨trivial, _, rfl, ?_⟩
    have h1 : slD (.str z) none (some 7) = some (.str y) := by
      show (if z.length ≤ sizeLine then some (D.str (cutS z none (some 7))) else none) = _
      rw [if_pos hz, hy]
    have h2 : addD (.str y) (.str ⟨#[c]⟩) s = some (.str (y ++ sg c)) := add_str (le_sz (by show y.length + 1 ≤ _; omega))
    have h3 : notInD (.str (y ++ sg c)) (.lst (taken.map .str)) s = some (.bl (!decide (y ++ sg c ∈ taken))) := notIn_lst
    simp -implicitDefEqProofs -failIfUnchanged only [word_snoc, DL.runs_D14, DL.runs_D15, DL.runs_D16, DL.runs_D17, DL.runs_D19, DL.runs_D20, DL.runs_D23, DL.runs_D24, DL.runs_D25, DL.runs_D26, DL.runs_D31, DL.runs_D34, DL.runs_D36, DL.runs_mir, DL.runs_sp_exec, DL.runs_sp_fam2, Nat.reduceSub, Nat.reduceAdd, Nat.reduceLT, true_and, h1, h2, h3]
    by_cases hc : y ++ sg c ∈ taken
    · rw [decide_eq_true hc]
      simp -implicitDefEqProofs -failIfUnchanged only [word_snoc, DL.runs_D14, DL.runs_D15, DL.runs_D16, DL.runs_D17, DL.runs_D19, DL.runs_D20, DL.runs_D23, DL.runs_D24, DL.runs_D25, DL.runs_D26, DL.runs_D31, DL.runs_D34, DL.runs_D36, DL.runs_mir, DL.runs_sp_exec, DL.runs_sp_fam2, Nat.reduceSub, Nat.reduceAdd, Nat.reduceLT, true_and]
      refine fresh_loop hy hz hy2 (fun o' h => q1 o' ?_) fun d hd => q2 d (List.mem_cons_of_mem _ hd)
      intro d hd
      rcases List.mem_cons.mp hd with rfl | hd
      · exact hc
      · exact h d hd
    · rw [decide_eq_false hc]
      simp -implicitDefEqProofs -failIfUnchanged only [word_snoc, DL.runs_D14, DL.runs_D15, DL.runs_D16, DL.runs_D17, DL.runs_D19, DL.runs_D20, DL.runs_D23, DL.runs_D24, DL.runs_D25, DL.runs_D26, DL.runs_D31, DL.runs_D34, DL.runs_D36, DL.runs_mir, DL.runs_sp_exec, DL.runs_sp_fam2, Nat.reduceSub, Nat.reduceAdd, Nat.reduceLT, true_and, h1, h2]
      exact q2 c List.mem_cons_self hc
theorem fresh_wp {b c : Addr} {taken : List Str} (hb : s.map b = some (.bag c)) (ht : taken.length < 26) (q : ∀ z, isName z = true → z ∉ taken → Q (.str z) s) : d_fresh [.ref b, .lst (taken.map .str)] s Q E := by
  unfold d_fresh b_fresh
  simp -implicitDefEqProofs -failIfUnchanged only [word_snoc, DL.runs_D14, DL.runs_D15, DL.runs_D16, DL.runs_D17, DL.runs_D19, DL.runs_D20, DL.runs_D23, DL.runs_D24, DL.runs_D25, DL.runs_D26, DL.runs_D31, DL.runs_D34, DL.runs_D36, DL.runs_mir, DL.runs_sp_exec, DL.runs_sp_fam2, Nat.reduceSub, Nat.reduceAdd, Nat.reduceLT, true_and]
  refine short_wp hb fun z hz => ?_
  simp -implicitDefEqProofs -failIfUnchanged only [word_snoc, DL.runs_D14, DL.runs_D15, DL.runs_D16, DL.runs_D17, DL.runs_D19, DL.runs_D20, DL.runs_D23, DL.runs_D24, DL.runs_D25, DL.runs_D26, DL.runs_D31, DL.runs_D34, DL.runs_D36, DL.runs_mir, DL.runs_sp_exec, DL.runs_sp_fam2, Nat.reduceSub, Nat.reduceAdd, Nat.reduceLT, true_and, notIn_lst]
  by_cases h : z ∈ taken
  · rw [decide_eq_true h]
    simp -implicitDefEqProofs -failIfUnchanged only [word_snoc, DL.runs_D14, DL.runs_D15, DL.runs_D16, DL.runs_D17, DL.runs_D19, DL.runs_D20, DL.runs_D23, DL.runs_D24, DL.runs_D25, DL.runs_D26, DL.runs_D31, DL.runs_D34, DL.runs_D36, DL.runs_mir, DL.runs_sp_exec, DL.runs_sp_fam2, Nat.reduceSub, Nat.reduceAdd, Nat.reduceLT, true_and, strSrc_ok abc_len]
    have hz7 : (cutS z none (some 7)).length ≤ 7 := by rw [len_list, cut7]; simp; omega
    refine fresh_loop (taken := taken) rfl (le_sz (by have := (isName_iff.mp hz).1.2; omega)) hz7 (cs := letters) (fun o' h2 => ?_) fun d hd h2 => ?_
    · have h3 : (letters.map fun c => cutS z none (some 7) ++ sg c).length ≤ taken.length := by
        refine nodup_le ?_ fun x hx => ?_
        · refine List.Pairwise.map _ (fun a b hab e => hab ?_) letters_nodup
          have := congrArg (fun z : Str => z.cps.toList) e
          simp only [str_app] at this
          have := List.append_cancel_left this
          simpa [sg] using this
        · obtain ⟨d, hd, rfl⟩ := List.mem_map.mp hx
          exact h2 d hd
      rw [List.length_map, letters26] at h3
      omega
    · simp -implicitDefEqProofs -failIfUnchanged only [word_snoc, DL.runs_D14, DL.runs_D15, DL.runs_D16, DL.runs_D17, DL.runs_D19, DL.runs_D20, DL.runs_D23, DL.runs_D24, DL.runs_D25, DL.runs_D26, DL.runs_D31, DL.runs_D34, DL.runs_D36, DL.runs_mir, DL.runs_sp_exec, DL.runs_sp_fam2, Nat.reduceSub, Nat.reduceAdd, Nat.reduceLT, true_and]
      exact q _ (name7 hz hd) h2
  · rw [decide_eq_false h]
    simp -implicitDefEqProofs -failIfUnchanged only [word_snoc, DL.runs_D14, DL.runs_D15, DL.runs_D16, DL.runs_D17, DL.runs_D19, DL.runs_D20, DL.runs_D23, DL.runs_D24, DL.runs_D25, DL.runs_D26, DL.runs_D31, DL.runs_D34, DL.runs_D36, DL.runs_mir, DL.runs_sp_exec, DL.runs_sp_fam2, Nat.reduceSub, Nat.reduceAdd, Nat.reduceLT, true_and]
    exact q z hz h
end
end DL
namespace DL
open PySem L2
section
variable {s : S} {Q : D → S → Prop} {E : Ex → S → Prop}
theorem kindAt_none {ks : List KD} {nm : Str} : kindAt ks nm = none ↔ nm ∉ ks.map KD.name := by
  unfold kindAt
  rw [List.find?_eq_none]
  simp only [decide_eq_true_eq, List.mem_map, not_exists, not_and]
theorem FamGood.nil : FamGood [] := ⟨by decide, (fun _ h => by cases h), fun i h => absurd h (Nat.not_lt_zero i), fun i h => absurd h (Nat.not_lt_zero i)⟩
theorem FamGood.snoc {ks : List KD} {k : KD} (g : FamGood ks) (h1 : ks.length < 16) (h2 : k.Good) (h3 : k.name ∉ ks.map KD.name) (h4 : ∀ b, k.base = some b → b ∈ ks.map KD.name) : FamGood (ks ++ [k]) := by
  refine ⟨by simp; omega, fun x hx => ?_, fun i h => ?_, fun i h b hb => ?_⟩
  · rcases List.mem_append.mp hx with q | q
    · exact g.good x q
    · rw [List.mem_singleton.mp q]; exact h2
  · by_cases e : i < ks.length
    · rw [List.take_append_of_le_length (Nat.le_of_lt e), List.getElem_append_left e]
      exact g.once i e
    · have e2 : i = ks.length := by simp at h; omega
      subst e2
      rw [List.take_append_of_le_length (Nat.le_refl _), List.take_length, List.getElem_append_right (Nat.le_refl _)]
      simp only [Nat.sub_self, List.getElem_cons_zero]
      exact kindAt_none.mpr h3
  · by_cases e : i < ks.length
    · rw [List.take_append_of_le_length (Nat.le_of_lt e)]
      rw [List.getElem_append_left e] at hb
      exact g.base i e b hb
    · have e2 : i = ks.length := by simp at h; omega
      subst e2
      rw [List.getElem_append_right (Nat.le_refl _)] at hb
      simp only [Nat.sub_self, List.getElem_cons_zero] at hb
      rw [List.take_append_of_le_length (Nat.le_refl _), List.take_length]
      intro h5
      exact kindAt_none.mp h5 (h4 b hb)
theorem ix_row0 {k : KD} : ixD k.row (.int 0) s = some (.str k.name) := rfl
theorem ix_row1 {k : KD} : ixD k.row (.int 1) s = some (oStr k.base) := rfl
theorem ix_row2 {k : KD} : ixD k.row (.int 2) s = some (.bl k.own) := rfl
theorem ix_row3 {k : KD} : ixD k.row (.int 3) s = some (begD k.beg) := rfl
theorem ix_ref {a : Addr} {xs : List D} {i : Int} (h : s.map a = some (.lst xs)) : ixD (.ref a) (.int i) s = atI xs i := by
  show (seqD s (.ref a)).bind (fun ds => atI ds i) = _
  rw [seqD_at h]; rfl
theorem many_wp {b c : Addr} (hb : s.map b = some (.bag c)) (q : ∀ n : Int, 1 ≤ n → n ≤ 16 → Q (.int n) s) : d_many [.ref b] s Q E := by
  unfold d_many b_many
  simp -implicitDefEqProofs -failIfUnchanged only [word_snoc, DL.runs_D14, DL.runs_D15, DL.runs_D16, DL.runs_D17, DL.runs_D19, DL.runs_D20, DL.runs_D23, DL.runs_D24, DL.runs_D25, DL.runs_D26, DL.runs_D31, DL.runs_D34, DL.runs_D36, DL.runs_mir, DL.runs_sp_exec, DL.runs_sp_fam2, Nat.reduceSub, Nat.reduceAdd, Nat.reduceLT, true_and]
  refine draw_wp hb (by decide) (by decide) fun v v0 v1 => ?_
  simp -implicitDefEqProofs -failIfUnchanged only [word_snoc, DL.runs_D14, DL.runs_D15, DL.runs_D16, DL.runs_D17, DL.runs_D19, DL.runs_D20, DL.runs_D23, DL.runs_D24, DL.runs_D25, DL.runs_D26, DL.runs_D31, DL.runs_D34, DL.runs_D36, DL.runs_mir, DL.runs_sp_exec, DL.runs_sp_fam2, Nat.reduceSub, Nat.reduceAdd, Nat.reduceLT, true_and, x_seqC]
  refine draw_wp hb (by decide) (by decide) fun w w0 w1 => ?_
  simp -implicitDefEqProofs -failIfUnchanged only [word_snoc, DL.runs_D14, DL.runs_D15, DL.runs_D16, DL.runs_D17, DL.runs_D19, DL.runs_D20, DL.runs_D23, DL.runs_D24, DL.runs_D25, DL.runs_D26, DL.runs_D31, DL.runs_D34, DL.runs_D36, DL.runs_mir, DL.runs_sp_exec, DL.runs_sp_fam2, Nat.reduceSub, Nat.reduceAdd, Nat.reduceLT, true_and]
  refine selB_of (fun _ => ?_) fun _ => ?_
  · refine draw_wp hb (by decide) (by decide) fun u u0 u1 => ?_
    simp -implicitDefEqProofs -failIfUnchanged only [word_snoc, DL.runs_D14, DL.runs_D15, DL.runs_D16, DL.runs_D17, DL.runs_D19, DL.runs_D20, DL.runs_D23, DL.runs_D24, DL.runs_D25, DL.runs_D26, DL.runs_D31, DL.runs_D34, DL.runs_D36, DL.runs_mir, DL.runs_sp_exec, DL.runs_sp_fam2, Nat.reduceSub, Nat.reduceAdd, Nat.reduceLT, true_and]
    exact q _ (by omega) (by omega)
  · simp -implicitDefEqProofs -failIfUnchanged only [word_snoc, DL.runs_D14, DL.runs_D15, DL.runs_D16, DL.runs_D17, DL.runs_D19, DL.runs_D20, DL.runs_D23, DL.runs_D24, DL.runs_D25, DL.runs_D26, DL.runs_D31, DL.runs_D34, DL.runs_D36, DL.runs_mir, DL.runs_sp_exec, DL.runs_sp_fam2, Nat.reduceSub, Nat.reduceAdd, Nat.reduceLT, true_and]
    exact q _ (by omega) (by omega)
end
end DL
namespace DL
open PySem L2
section
variable {s : S} {Q : D → S → Prop} {E : Ex → S → Prop}
theorem rows_wp {b c : Addr} {n : Int} (hb : s.map b = some (.bag c)) (h0 : 0 ≤ n) (h1 : n ≤ 16) (q : ∀ ks : List KD, FamGood ks → (ks.length : Int) = n → Q (.lst (ks.map KD.row)) s) : d_rows [.ref b, .int n] s Q E := by
  unfold d_rows b_rows
  simp -implicitDefEqProofs -failIfUnchanged only [word_snoc, DL.runs_D14, DL.runs_D15, DL.runs_D16, DL.runs_D17, DL.runs_D19, DL.runs_D20, DL.runs_D23, DL.runs_D24, DL.runs_D25, DL.runs_D26, DL.runs_D31, DL.runs_D34, DL.runs_D36, DL.runs_mir, DL.runs_sp_exec, DL.runs_sp_fam2, Nat.reduceSub, Nat.reduceAdd, Nat.reduceLT, true_and, range1_nat h0 (show n ≤ 1000000 by omega)]
  intro a ha
  have hb2 : ∀ o, (s.set a o).map b = some (.bag c) := fun o => map_keep hb ha
  refine loop_inv (fun ds ρ s' => ∃ ks, FamGood ks ∧ ks.length ≤ n.toNat ∧ ds = intsD ks.length (n.toNat - ks.length) ∧ s' = s.set a (.lst (ks.map KD.row)) ∧ ∃ o3 o4 o5 o6 o7, ρ = [some (.ref b), some (.int n), some (.ref a), o3, o4, o5, o6, o7]) _ _ _ ⟨[], .nil, Nat.zero_le _, rfl, rfl, _, _, _, _, _, rfl⟩ ?_ ?_
  · rintro d ds ρ s' ⟨ks, g, hl, hd, rfl, o3, o4, o5, o6, o7, rfl⟩
    have hlt : ks.length < n.toNat := by
      refine Nat.lt_of_le_of_ne hl fun e => ?_
      rw [← e, Nat.sub_self] at hd
      cases hd
    obtain ⟨j, hj⟩ : ∃ j, n.toNat - ks.length = j + 1 := ⟨n.toNat - ks.length - 1, by omega⟩
    rw [hj, ints_succ] at hd
    obtain ⟨rfl, rfl⟩ := List.cons.inj hd
    refine ⟨trivial, _, rfl, ?_⟩
    simp -implicitDefEqProofs -failIfUnchanged only [word_snoc, DL.runs_D14, DL.runs_D15, DL.runs_D16, DL.runs_D17, DL.runs_D19, DL.runs_D20, DL.runs_D23, DL.runs_D24, DL.runs_D25, DL.runs_D26, DL.runs_D31, DL.runs_D34, DL.runs_D36, DL.runs_mir, DL.runs_sp_exec, DL.runs_sp_fam2, Nat.reduceSub, Nat.reduceAdd, Nat.reduceLT, true_and, ite_src (show (ks.map KD.row).length ≤ sizeLine from le_sz (by simp; omega))]
    refine lc_pure KD.row (fun k => .str k.name) ks [] srcP_set (fun k hk => ⟨_, rfl, ?_⟩) ?_
    · simp -implicitDefEqProofs -failIfUnchanged only [word_snoc, DL.runs_D14, DL.runs_D15, DL.runs_D16, DL.runs_D17, DL.runs_D19, DL.runs_D20, DL.runs_D23, DL.runs_D24, DL.runs_D25, DL.runs_D26, DL.runs_D31, DL.runs_D34, DL.runs_D36, DL.runs_mir, DL.runs_sp_exec, DL.runs_sp_fam2, Nat.reduceSub, Nat.reduceAdd, Nat.reduceLT, true_and, ix_row0]
    have e : ks.map (fun k => D.str k.name) = (ks.map KD.name).map .str := by rw [List.map_map]; rfl
    simp -implicitDefEqProofs -failIfUnchanged only [word_snoc, DL.runs_D14, DL.runs_D15, DL.runs_D16, DL.runs_D17, DL.runs_D19, DL.runs_D20, DL.runs_D23, DL.runs_D24, DL.runs_D25, DL.runs_D26, DL.runs_D31, DL.runs_D34, DL.runs_D36, DL.runs_mir, DL.runs_sp_exec, DL.runs_sp_fam2, Nat.reduceSub, Nat.reduceAdd, Nat.reduceLT, true_and, e]
    refine fresh_wp (hb2 _) (by simp; omega) fun z hz hz2 => ?_
    simp -implicitDefEqProofs -failIfUnchanged only [word_snoc, DL.runs_D14, DL.runs_D15, DL.runs_D16, DL.runs_D17, DL.runs_D19, DL.runs_D20, DL.runs_D23, DL.runs_D24, DL.runs_D25, DL.runs_D26, DL.runs_D31, DL.runs_D34, DL.runs_D36, DL.runs_mir, DL.runs_sp_exec, DL.runs_sp_fam2, Nat.reduceSub, Nat.reduceAdd, Nat.reduceLT, true_and]
    refine draw_wp (hb2 _) (by omega) (by omega) fun v v0 v1 => ?_
    simp -implicitDefEqProofs -failIfUnchanged only [word_snoc, DL.runs_D14, DL.runs_D15, DL.runs_D16, DL.runs_D17, DL.runs_D19, DL.runs_D20, DL.runs_D23, DL.runs_D24, DL.runs_D25, DL.runs_D26, DL.runs_D31, DL.runs_D34, DL.runs_D36, DL.runs_mir, DL.runs_sp_exec, DL.runs_sp_fam2, Nat.reduceSub, Nat.reduceAdd, Nat.reduceLT, true_and]
    refine cutC (fun ρ' s' => s' = s.set a (.lst (ks.map KD.row)) ∧ ∃ ab : Int, 0 ≤ ab ∧ ab ≤ ks.length ∧ ρ' = [some (.ref b), some (.int n), some (.ref a), some (.int (ks.length : Nat)), some (.str z), some (.int ab), o6, o7]) ?_ ?_
    · simp -implicitDefEqProofs -failIfUnchanged only [word_snoc, DL.runs_D14, DL.runs_D15, DL.runs_D16, DL.runs_D17, DL.runs_D19, DL.runs_D20, DL.runs_D23, DL.runs_D24, DL.runs_D25, DL.runs_D26, DL.runs_D31, DL.runs_D34, DL.runs_D36, DL.runs_mir, DL.runs_sp_exec, DL.runs_sp_fam2, Nat.reduceSub, Nat.reduceAdd, Nat.reduceLT, true_and]
      refine selB_of (fun _ => selB_of (fun _ => ?_) fun _ => ?_) fun _ => ?_
      · refine draw_wp (hb2 _) (by decide) (by decide) fun w w0 w1 => ?_
        simp -implicitDefEqProofs -failIfUnchanged only [word_snoc, DL.runs_D14, DL.runs_D15, DL.runs_D16, DL.runs_D17, DL.runs_D19, DL.runs_D20, DL.runs_D23, DL.runs_D24, DL.runs_D25, DL.runs_D26, DL.runs_D31, DL.runs_D34, DL.runs_D36, DL.runs_mir, DL.runs_sp_exec, DL.runs_sp_fam2, Nat.reduceSub, Nat.reduceAdd, Nat.reduceLT, true_and]
        refine selB_of (fun _ => ?_) fun _ => ?_
        · exact ⟨_, by omega, Int.le_refl _, rfl⟩
        · exact ⟨_, v0, by omega, rfl⟩
      · simp -implicitDefEqProofs -failIfUnchanged only [word_snoc, DL.runs_D14, DL.runs_D15, DL.runs_D16, DL.runs_D17, DL.runs_D19, DL.runs_D20, DL.runs_D23, DL.runs_D24, DL.runs_D25, DL.runs_D26, DL.runs_D31, DL.runs_D34, DL.runs_D36, DL.runs_mir, DL.runs_sp_exec, DL.runs_sp_fam2, Nat.reduceSub, Nat.reduceAdd, Nat.reduceLT, true_and]
        exact ⟨_, v0, by omega, rfl⟩
      · simp -implicitDefEqProofs -failIfUnchanged only [word_snoc, DL.runs_D14, DL.runs_D15, DL.runs_D16, DL.runs_D17, DL.runs_D19, DL.runs_D20, DL.runs_D23, DL.runs_D24, DL.runs_D25, DL.runs_D26, DL.runs_D31, DL.runs_D34, DL.runs_D36, DL.runs_mir, DL.runs_sp_exec, DL.runs_sp_fam2, Nat.reduceSub, Nat.reduceAdd, Nat.reduceLT, true_and]
        exact ⟨_, v0, by omega, rfl⟩
    · rintro ρ' s' ⟨rfl, ab, a0, a1, rfl⟩
      simp -implicitDefEqProofs -failIfUnchanged only [word_snoc, DL.runs_D14, DL.runs_D15, DL.runs_D16, DL.runs_D17, DL.runs_D19, DL.runs_D20, DL.runs_D23, DL.runs_D24, DL.runs_D25, DL.runs_D26, DL.runs_D31, DL.runs_D34, DL.runs_D36, DL.runs_mir, DL.runs_sp_exec, DL.runs_sp_fam2, Nat.reduceSub, Nat.reduceAdd, Nat.reduceLT, true_and]
      refine cutC (fun ρ' s' => s' = s.set a (.lst (ks.map KD.row)) ∧ ∃ bs : Option Str, (∀ x, bs = some x → x ∈ ks.map KD.name) ∧ ρ' = [some (.ref b), some (.int n), some (.ref a), some (.int (ks.length : Nat)), some (.str z), some (.int ab), some (oStr bs), o7]) ?_ ?_
      · simp -implicitDefEqProofs -failIfUnchanged only [word_snoc, DL.runs_D14, DL.runs_D15, DL.runs_D16, DL.runs_D17, DL.runs_D19, DL.runs_D20, DL.runs_D23, DL.runs_D24, DL.runs_D25, DL.runs_D26, DL.runs_D31, DL.runs_D34, DL.runs_D36, DL.runs_mir, DL.runs_sp_exec, DL.runs_sp_fam2, Nat.reduceSub, Nat.reduceAdd, Nat.reduceLT, true_and]
        refine selB_of (fun h => ?_) fun _ => ⟨none, (fun _ h => by cases h), rfl⟩
        have h : 0 < ab := of_decide_eq_true h
        obtain ⟨x, h2, h3⟩ := atI_pos (xs := ks.map KD.row) (i := ab - 1) (by omega) (by simp; omega)
        obtain ⟨k, hk, rfl⟩ := List.mem_map.mp h3
        have h4 : ixD (.ref a) (.int (ab - 1)) (s.set a (.lst (ks.map KD.row))) = some k.row := by
          rw [ix_ref S.set_same]; exact h2
        simp -implicitDefEqProofs -failIfUnchanged only [word_snoc, DL.runs_D14, DL.runs_D15, DL.runs_D16, DL.runs_D17, DL.runs_D19, DL.runs_D20, DL.runs_D23, DL.runs_D24, DL.runs_D25, DL.runs_D26, DL.runs_D31, DL.runs_D34, DL.runs_D36, DL.runs_mir, DL.runs_sp_exec, DL.runs_sp_fam2, Nat.reduceSub, Nat.reduceAdd, Nat.reduceLT, true_and, h4, ix_row0]
        exact ⟨some k.name, fun x hx => by cases hx; exact List.mem_map.mpr ⟨k, hk, rfl⟩, rfl⟩
      · rintro ρ' s' ⟨rfl, bs, hbs, rfl⟩
        simp -implicitDefEqProofs -failIfUnchanged only [word_snoc, DL.runs_D14, DL.runs_D15, DL.runs_D16, DL.runs_D17, DL.runs_D19, DL.runs_D20, DL.runs_D23, DL.runs_D24, DL.runs_D25, DL.runs_D26, DL.runs_D31, DL.runs_D34, DL.runs_D36, DL.runs_mir, DL.runs_sp_exec, DL.runs_sp_fam2, Nat.reduceSub, Nat.reduceAdd, Nat.reduceLT, true_and]
        refine draw_wp (hb2 _) (by decide) (by decide) fun w w0 w1 => ?_
        simp -implicitDefEqProofs -failIfUnchanged only [word_snoc, DL.runs_D14, DL.runs_D15, DL.runs_D16, DL.runs_D17, DL.runs_D19, DL.runs_D20, DL.runs_D23, DL.runs_D24, DL.runs_D25, DL.runs_D26, DL.runs_D31, DL.runs_D34, DL.runs_D36, DL.runs_mir, DL.runs_sp_exec, DL.runs_sp_fam2, Nat.reduceSub, Nat.reduceAdd, Nat.reduceLT, true_and]
        refine begin_wp (hb2 _) fun bg hbg => ?_
        simp -implicitDefEqProofs -failIfUnchanged only [word_snoc, DL.runs_D14, DL.runs_D15, DL.runs_D16, DL.runs_D17, DL.runs_D19, DL.runs_D20, DL.runs_D23, DL.runs_D24, DL.runs_D25, DL.runs_D26, DL.runs_D31, DL.runs_D34, DL.runs_D36, DL.runs_mir, DL.runs_sp_exec, DL.runs_sp_fam2, Nat.reduceSub, Nat.reduceAdd, Nat.reduceLT, true_and, appF_ok (show (ks.map KD.row).length < sizeLine from lt_sz (by simp; omega))]
        refine ⟨ks ++ [⟨z, bs, decide (w = 1), bg⟩], g.snoc (by omega) ⟨hz, fun x hx => ?_, hbg⟩ hz2 hbs, by simp; omega, ?_, ?_, _, _, _, _, _, rfl⟩
        · obtain ⟨k, hk, rfl⟩ := List.mem_map.mp (hbs x hx)
          exact (g.good k hk).name
        · have e1 : n.toNat - (ks ++ [⟨z, bs, decide (w = 1), bg⟩] : List KD).length = j := by simp; omega
          rw [e1]
          simp
        · simp [KD.row]
  · rintro ρ s' ⟨ks, g, hl, hd, rfl, o3, o4, o5, o6, o7, rfl⟩
    refine ⟨trivial, ?_⟩
    have hlt : ks.length = n.toNat := by
      have h := congrArg List.length hd
      rw [ints_len] at h
      simp at h
      omega
    simp -implicitDefEqProofs -failIfUnchanged only [word_snoc, DL.runs_D14, DL.runs_D15, DL.runs_D16, DL.runs_D17, DL.runs_D19, DL.runs_D20, DL.runs_D23, DL.runs_D24, DL.runs_D25, DL.runs_D26, DL.runs_D31, DL.runs_D34, DL.runs_D36, DL.runs_mir, DL.runs_sp_exec, DL.runs_sp_fam2, Nat.reduceSub, Nat.reduceAdd, Nat.reduceLT, true_and, freezeE_lst ha]
    exact q ks g (by omega)
end
end DL
namespace DL
open PySem L2
section
variable {s : S} {Q : D → S → Prop} {E : Ex → S → Prop}
theorem family_wp {m : MkD} {ks : List KD} (gm : m.Good) (g : FamGood ks) (q : Q (famD m ks) s) : d_family [rulesD m, .lst (ks.map KD.row)] s Q E := by
  unfold d_family b_family
  simp -implicitDefEqProofs -failIfUnchanged only [word_snoc, DL.runs_D14, DL.runs_D15, DL.runs_D16, DL.runs_D17, DL.runs_D19, DL.runs_D20, DL.runs_D23, DL.runs_D24, DL.runs_D25, DL.runs_D26, DL.runs_D31, DL.runs_D34, DL.runs_D36, DL.runs_mir, DL.runs_sp_exec, DL.runs_sp_fam2, Nat.reduceSub, Nat.reduceAdd, Nat.reduceLT, true_and]
  refine maker_wp gm ?_
  simp -implicitDefEqProofs -failIfUnchanged only [word_snoc, DL.runs_D14, DL.runs_D15, DL.runs_D16, DL.runs_D17, DL.runs_D19, DL.runs_D20, DL.runs_D23, DL.runs_D24, DL.runs_D25, DL.runs_D26, DL.runs_D31, DL.runs_D34, DL.runs_D36, DL.runs_mir, DL.runs_sp_exec, DL.runs_sp_fam2, Nat.reduceSub, Nat.reduceAdd, Nat.reduceLT, true_and, ite_src (show (ks.map KD.row).length ≤ sizeLine by simpa using g.sz)]
  refine lc_pure KD.row KD.ins ks [] trivial (fun k hk => ⟨_, rfl, ?_⟩) ?_
  · simp -implicitDefEqProofs -failIfUnchanged only [word_snoc, DL.runs_D14, DL.runs_D15, DL.runs_D16, DL.runs_D17, DL.runs_D19, DL.runs_D20, DL.runs_D23, DL.runs_D24, DL.runs_D25, DL.runs_D26, DL.runs_D31, DL.runs_D34, DL.runs_D36, DL.runs_mir, DL.runs_sp_exec, DL.runs_sp_fam2, Nat.reduceSub, Nat.reduceAdd, Nat.reduceLT, true_and]
    exact Kind_of_good (g.good k hk) ⟨rfl, rfl⟩
  simp -implicitDefEqProofs -failIfUnchanged only [word_snoc, DL.runs_D14, DL.runs_D15, DL.runs_D16, DL.runs_D17, DL.runs_D19, DL.runs_D20, DL.runs_D23, DL.runs_D24, DL.runs_D25, DL.runs_D26, DL.runs_D31, DL.runs_D34, DL.runs_D36, DL.runs_mir, DL.runs_sp_exec, DL.runs_sp_fam2, Nat.reduceSub, Nat.reduceAdd, Nat.reduceLT, true_and]
  exact Family_of_wp g q
end
end DL
namespace DL
open PySem L2
section
variable {s : S} {Q : D → S → Prop} {E : Ex → S → Prop}
def baseS : Option Str → Str
  | none => ""
  | some b => ("(" : Str) ++ b ++ (")" : Str)
def line1 (k : KD) : Str := (("kind " : Str) ++ k.name) ++ baseS k.base ++ (if k.own = true then (" own" : Str) else "")
def line2 (p : Str × Bool) : Str := ("begin " : Str) ++ p.1 ++ (if p.2 = true then (" guarded" : Str) else "")
def linesK (k : KD) : List Str := line1 k :: (match k.beg with | none => [] | some p => [line2 p])
def linesM (m : MkD) : List Str := (ruleL.zip m.list).map fun p => p.1 ++ (" " : Str) ++ p.2
theorem sapp (a b c : Str) : a ++ b ++ c = a ++ (b ++ c) := by
  obtain ⟨a⟩ := a; obtain ⟨b⟩ := b; obtain ⟨c⟩ := c
  show (⟨(a ++ b) ++ c⟩ : Str) = ⟨a ++ (b ++ c)⟩
  rw [Array.append_assoc]
theorem sapp_nil (a : Str) : a ++ ("" : Str) = a := by
  obtain ⟨a⟩ := a
  show (⟨a ++ #[]⟩ : Str) = ⟨a⟩
  simp
theorem slen (a b : Str) : (a ++ b).length = a.length + b.length := by
  rw [len_list, str_app, List.length_append, ← len_list, ← len_list]
theorem nlen {z : Str} (h : isName z = true) : z.length ≤ 8 := (isName_iff.mp h).1.2
theorem ulen : ∀ z ∈ upsL, z.length ≤ 5 := by decide +kernel
theorem show_kind_wp {k : KD} (g : k.Good) (q : Q (.lst ((linesK k).map .str)) s) : d_show_kind [k.ins] s Q E := by
  obtain ⟨nm, bs, ow, bg⟩ := k
  have hn : nm.length ≤ 8 := nlen g.name
  have l1 : (("kind " : Str)).length = 5 := rfl
  have l2 : (("(" : Str)).length = 1 := rfl
  have l3 : ((")" : Str)).length = 1 := rfl
  have l4 : ((" own" : Str)).length = 4 := rfl
  have l5 : (("begin " : Str)).length = 6 := rfl
  have l6 : ((" guarded" : Str)).length = 8 := rfl
  unfold d_show_kind b_show_kind KD.ins
  simp -implicitDefEqProofs -failIfUnchanged only [word_snoc, DL.runs_D14, DL.runs_D15, DL.runs_D16, DL.runs_D17, DL.runs_D19, DL.runs_D20, DL.runs_D23, DL.runs_D24, DL.runs_D25, DL.runs_D26, DL.runs_D31, DL.runs_D34, DL.runs_D36, DL.runs_mir, DL.runs_sp_exec, DL.runs_sp_fam2, Nat.reduceSub, Nat.reduceAdd, Nat.reduceLT, true_and, add_str (show (("kind " : Str)).length + nm.length ≤ sizeLine from le_sz (by omega)), oStr_non]
  refine cutC (fun ρ' s' => s' = s ∧ ∃ z : Str, z = (("kind " : Str) ++ nm) ++ baseS bs ∧ z.length ≤ 30 ∧ ρ' = [some (KD.ins ⟨nm, bs, ow, bg⟩), some (.str z)]) ?_ ?_
  · cases bs with
    | none =>
      simp -implicitDefEqProofs -failIfUnchanged only [word_snoc, DL.runs_D14, DL.runs_D15, DL.runs_D16, DL.runs_D17, DL.runs_D19, DL.runs_D20, DL.runs_D23, DL.runs_D24, DL.runs_D25, DL.runs_D26, DL.runs_D31, DL.runs_D34, DL.runs_D36, DL.runs_mir, DL.runs_sp_exec, DL.runs_sp_fam2, Nat.reduceSub, Nat.reduceAdd, Nat.reduceLT, true_and, oStr_non, Option.isNone]
      exact ⟨_, rfl, by rw [baseS, sapp_nil, slen]; omega, by rw [baseS, sapp_nil]; rfl⟩
    | some b =>
      have hb : b.length ≤ 8 := nlen (g.base b rfl)
      simp -implicitDefEqProofs -failIfUnchanged only [word_snoc, DL.runs_D14, DL.runs_D15, DL.runs_D16, DL.runs_D17, DL.runs_D19, DL.runs_D20, DL.runs_D23, DL.runs_D24, DL.runs_D25, DL.runs_D26, DL.runs_D31, DL.runs_D34, DL.runs_D36, DL.runs_mir, DL.runs_sp_exec, DL.runs_sp_fam2, Nat.reduceSub, Nat.reduceAdd, Nat.reduceLT, true_and, oStr_non, Option.isNone, add_str (show (("kind " : Str) ++ nm).length + (("(" : Str)).length ≤ sizeLine from le_sz (by rw [slen]; omega)), add_str (show (("kind " : Str) ++ nm ++ ("(" : Str)).length + b.length ≤ sizeLine from le_sz (by rw [slen, slen]; omega)), add_str (show (("kind " : Str) ++ nm ++ ("(" : Str) ++ b).length + ((")" : Str)).length ≤ sizeLine from le_sz (by rw [slen, slen, slen]; omega))]
      exact ⟨_, rfl, by simp only [baseS, slen]; omega, by simp only [baseS, sapp]; rfl⟩
  · rintro ρ' s' ⟨rfl, z, hz, hl, rfl⟩
    unfold KD.ins
    simp -implicitDefEqProofs -failIfUnchanged only [word_snoc, DL.runs_D14, DL.runs_D15, DL.runs_D16, DL.runs_D17, DL.runs_D19, DL.runs_D20, DL.runs_D23, DL.runs_D24, DL.runs_D25, DL.runs_D26, DL.runs_D31, DL.runs_D34, DL.runs_D36, DL.runs_mir, DL.runs_sp_exec, DL.runs_sp_fam2, Nat.reduceSub, Nat.reduceAdd, Nat.reduceLT, true_and]
    refine cutC (fun ρ' s'' => s'' = s' ∧ ∃ y : Str, y = line1 ⟨nm, bs, ow, bg⟩ ∧ ρ' = [some (KD.ins ⟨nm, bs, ow, bg⟩), some (.str y)]) ?_ ?_
    · cases ow with
      | true =>
        simp -implicitDefEqProofs -failIfUnchanged only [word_snoc, DL.runs_D14, DL.runs_D15, DL.runs_D16, DL.runs_D17, DL.runs_D19, DL.runs_D20, DL.runs_D23, DL.runs_D24, DL.runs_D25, DL.runs_D26, DL.runs_D31, DL.runs_D34, DL.runs_D36, DL.runs_mir, DL.runs_sp_exec, DL.runs_sp_fam2, Nat.reduceSub, Nat.reduceAdd, Nat.reduceLT, true_and, add_str (show z.length + ((" own" : Str)).length ≤ sizeLine from le_sz (by omega))]
        exact ⟨_, by rw [hz]; rfl, rfl⟩
      | false =>
        simp -implicitDefEqProofs -failIfUnchanged only [word_snoc, DL.runs_D14, DL.runs_D15, DL.runs_D16, DL.runs_D17, DL.runs_D19, DL.runs_D20, DL.runs_D23, DL.runs_D24, DL.runs_D25, DL.runs_D26, DL.runs_D31, DL.runs_D34, DL.runs_D36, DL.runs_mir, DL.runs_sp_exec, DL.runs_sp_fam2, Nat.reduceSub, Nat.reduceAdd, Nat.reduceLT, true_and]
        exact ⟨_, by rw [hz]; exact (sapp_nil _).symm, rfl⟩
    · rintro ρ' s'' ⟨rfl, y, hy, rfl⟩
      unfold KD.ins
      cases bg with
      | none =>
        simp -implicitDefEqProofs -failIfUnchanged only [word_snoc, DL.runs_D14, DL.runs_D15, DL.runs_D16, DL.runs_D17, DL.runs_D19, DL.runs_D20, DL.runs_D23, DL.runs_D24, DL.runs_D25, DL.runs_D26, DL.runs_D31, DL.runs_D34, DL.runs_D36, DL.runs_mir, DL.runs_sp_exec, DL.runs_sp_fam2, Nat.reduceSub, Nat.reduceAdd, Nat.reduceLT, true_and, beginD]
        rw [hy]; exact q
      | some p =>
        obtain ⟨up, gd⟩ := p
        have hu : up.length ≤ 5 := ulen up (g.beg _ rfl)
        have a1 := add_str (s := s'') (show (("begin " : Str)).length + up.length ≤ sizeLine from le_sz (by omega))
        have a2 := add_str (s := s'') (show (("begin " : Str) ++ up).length + ((" guarded" : Str)).length ≤ sizeLine from le_sz (by rw [slen]; omega))
        cases gd with
        | true =>
          simp -implicitDefEqProofs -failIfUnchanged only [word_snoc, DL.runs_D14, DL.runs_D15, DL.runs_D16, DL.runs_D17, DL.runs_D19, DL.runs_D20, DL.runs_D23, DL.runs_D24, DL.runs_D25, DL.runs_D26, DL.runs_D31, DL.runs_D34, DL.runs_D36, DL.runs_mir, DL.runs_sp_exec, DL.runs_sp_fam2, Nat.reduceSub, Nat.reduceAdd, Nat.reduceLT, true_and, beginD, a1, a2]
          rw [hy]; exact q
        | false =>
          simp -implicitDefEqProofs -failIfUnchanged only [word_snoc, DL.runs_D14, DL.runs_D15, DL.runs_D16, DL.runs_D17, DL.runs_D19, DL.runs_D20, DL.runs_D23, DL.runs_D24, DL.runs_D25, DL.runs_D26, DL.runs_D31, DL.runs_D34, DL.runs_D36, DL.runs_mir, DL.runs_sp_exec, DL.runs_sp_fam2, Nat.reduceSub, Nat.reduceAdd, Nat.reduceLT, true_and, beginD, a1]
          rw [hy]
          have e : line2 (up, false) = ("begin " : Str) ++ up := sapp_nil _
          replace q : Q (.lst [.str (line1 ⟨nm, bs, ow, some (up, false)⟩), .str (line2 (up, false))]) s'' := q
          rw [e] at q
          exact q
def linesF (m : MkD) (ks : List KD) : List Str := linesM m ++ ks.flatMap linesK
theorem rl_len : ∀ r ∈ ruleL, r.length ≤ 7 := by decide +kernel
theorem tch_len : ∀ p ∈ t_CHOICES, (match p.2 with | .tup xs => (match strsOf xs with | some ys => ys.all (fun c => decide (c.length ≤ 9)) | none => false) | _ => false) = true := by decide +kernel
theorem Chs.len : ∀ {ps : List (Str × Str)}, Chs ps → ∀ p ∈ ps, p.2.length ≤ 9
  | _, .nil, _, h => by cases h
  | _, .cons chs h1 h2 h3 h, p, hp => by
    rcases List.mem_cons.mp hp with rfl | hp
    · have := tch_len _ (lookup_mem h1)
      simp only [strsOf_map, List.all_eq_true, decide_eq_true_eq] at this
      exact this _ h2
    · exact h.len p hp
theorem linesK_len (k : KD) : (linesK k).length ≤ 2 := by
  unfold linesK
  cases k.beg <;> simp
theorem flat_len (ks : List KD) : (ks.flatMap linesK).length ≤ 2 * ks.length := by
  induction ks with
  | nil => simp
  | cons k ks ih => have := linesK_len k; simp only [List.flatMap_cons, List.length_append, List.length_cons]; omega
theorem line1_len {k : KD} (g : k.Good) : (line1 k).length ≤ 40 := by
  have hn := nlen g.name
  have l1 : (("kind " : Str)).length = 5 := rfl
  have l2 : (("(" : Str)).length = 1 := rfl
  have l3 : ((")" : Str)).length = 1 := rfl
  have l4 : ((" own" : Str)).length = 4 := rfl
  have l0 : (("" : Str)).length = 0 := rfl
  have hb : (baseS k.base).length ≤ 10 := by
    cases e : k.base with
    | none => show (("" : Str)).length ≤ 10; omega
    | some b => have := nlen (g.base b e); rw [baseS, slen, slen]; omega
  have ho : (if k.own = true then (" own" : Str) else "").length ≤ 4 := by split <;> omega
  unfold line1
  rw [slen, slen, slen]; omega
theorem line2_len {p : Str × Bool} (h : p.1 ∈ upsL) : (line2 p).length ≤ 20 := by
  have hn := ulen _ h
  have l1 : (("begin " : Str)).length = 6 := rfl
  have l4 : ((" guarded" : Str)).length = 8 := rfl
  have l0 : (("" : Str)).length = 0 := rfl
  have ho : (if p.2 = true then (" guarded" : Str) else "").length ≤ 8 := by split <;> omega
  unfold line2
  rw [slen, slen]; omega
theorem lineM_len {m : MkD} (g : m.Good) : ∀ z ∈ linesM m, z.length ≤ 20 := by
  intro z hz
  obtain ⟨p, hp, rfl⟩ := List.mem_map.mp hz
  have h1 := Chs.len g p hp
  have h2 := rl_len p.1 (List.of_mem_zip hp).1
  have l0 : ((" " : Str)).length = 1 := rfl
  rw [slen, slen]; omega
theorem linesF_len {m : MkD} {ks : List KD} (gm : m.Good) (g : FamGood ks) : (linesF m ks).length ≤ 42 ∧ ∀ z ∈ linesF m ks, z.length ≤ 40 := by
  refine ⟨?_, fun z hz => ?_⟩
  · have h1 := flat_len ks
    have h2 := g.most
    have h3 : (linesM m).length = 10 := rfl
    unfold linesF
    rw [List.length_append]; omega
  · rcases List.mem_append.mp hz with h | h
    · exact Nat.le_trans (lineM_len gm z h) (by decide)
    · obtain ⟨k, hk, hz⟩ := List.mem_flatMap.mp h
      rcases List.mem_cons.mp hz with rfl | hz
      · exact line1_len (g.good k hk)
      · cases e : k.beg with
        | none => rw [e] at hz; cases hz
        | some p =>
          rw [e] at hz
          rw [List.mem_singleton.mp hz]
          exact Nat.le_trans (line2_len ((g.good k hk).beg p e)) (by decide)
theorem sum_le {zs : List Str} {n : Nat} (h : ∀ z ∈ zs, z.length ≤ n) : (zs.map (·.length)).sum ≤ n * zs.length := by
  induction zs with
  | nil => simp
  | cons z zs ih =>
    have h1 := h z List.mem_cons_self
    have h2 := ih fun y hy => h y (List.mem_cons_of_mem _ hy)
    simp only [List.map_cons, List.sum_cons, List.length_cons, Nat.mul_add]
    omega
def textF (m : MkD) (ks : List KD) : Str := Txt.join "\n" (linesF m ks)
theorem join_ref {a : Addr} {z : Str} {ys : List Str} (ha : s.map a = some (.lst (ys.map .str))) (h : (ys.map (·.length)).sum + ys.length * z.length ≤ 16777216) : joinD (.str z) (.ref a) s = some (.str (Txt.join z ys)) := by
  show ((seqD s (.ref a)).bind fun ds => (strsOf ds).bind fun ys => if (ys.map (·.length)).sum + ys.length * z.length ≤ 16777216 then some (D.str (Txt.join z ys)) else none) = _
  rw [seqD_at ha, Option.bind_some, strsOf_map, Option.bind_some, if_pos h]
theorem linesF_ok {m : MkD} {ks : List KD} (gm : m.Good) (g : FamGood ks) : ((linesF m ks).map (·.length)).sum + (linesF m ks).length * (("\n" : Str)).length ≤ 16777216 := by
  obtain ⟨h1, h2⟩ := linesF_len gm g
  have h3 := sum_le h2
  have l : (("\n" : Str)).length = 1 := rfl
  rw [l]; omega
theorem show_family_wp {m : MkD} {ks : List KD} (gm : m.Good) (g : FamGood ks) (q : Q (.str (textF m ks)) s) : d_show_family [famD m ks] s Q E := by
  unfold d_show_family b_show_family famD
  have h3 : insOk "Maker" "written" m.ins s = some () := rfl
  simp -implicitDefEqProofs -failIfUnchanged only [word_snoc, DL.runs_D14, DL.runs_D15, DL.runs_D16, DL.runs_D17, DL.runs_D19, DL.runs_D20, DL.runs_D23, DL.runs_D24, DL.runs_D25, DL.runs_D26, DL.runs_D31, DL.runs_D34, DL.runs_D36, DL.runs_mir, DL.runs_sp_exec, DL.runs_sp_fam2, Nat.reduceSub, Nat.reduceAdd, Nat.reduceLT, true_and]
  intro a ha
  have h3 : insOk "Maker" "written" m.ins (s.set a (.lst [])) = some () := rfl
  simp -implicitDefEqProofs -failIfUnchanged only [word_snoc, DL.runs_D14, DL.runs_D15, DL.runs_D16, DL.runs_D17, DL.runs_D19, DL.runs_D20, DL.runs_D23, DL.runs_D24, DL.runs_D25, DL.runs_D26, DL.runs_D31, DL.runs_D34, DL.runs_D36, DL.runs_mir, DL.runs_sp_exec, DL.runs_sp_fam2, Nat.reduceSub, Nat.reduceAdd, Nat.reduceLT, true_and, h3]
  refine Maker_written_wp ?_
  have hz : ∀ s, zipSrc s [cc_Maker_RULES, m.row] = some ⟨(ruleL.zip m.list).map fun p => .tup [.str p.1, .str p.2], fun _ => True⟩ := fun _ => rfl
  simp -implicitDefEqProofs -failIfUnchanged only [word_snoc, DL.runs_D14, DL.runs_D15, DL.runs_D16, DL.runs_D17, DL.runs_D19, DL.runs_D20, DL.runs_D23, DL.runs_D24, DL.runs_D25, DL.runs_D26, DL.runs_D31, DL.runs_D34, DL.runs_D36, DL.runs_mir, DL.runs_sp_exec, DL.runs_sp_fam2, Nat.reduceSub, Nat.reduceAdd, Nat.reduceLT, true_and, hz]
  refine loop_inv (fun ds ρ s' => ∃ ps1 ps2, ruleL.zip m.list = ps1 ++ ps2 ∧ ds = (ps2.map fun p : Str × Str => D.tup [.str p.1, .str p.2]) ∧ s' = s.set a (.lst ((ps1.map fun p : Str × Str => p.1 ++ (" " : Str) ++ p.2).map .str)) ∧ ∃ o2 o3, ρ = [some (.ins "Family" ["maker", "kinds"] [m.ins, kindsD ks]), some (.ref a), o2, o3, none]) _ _ _ ⟨[], _, rfl, rfl, rfl, _, _, rfl⟩ ?_ ?_
  · rintro d ds ρ s' ⟨ps1, ps2, hp, hd, rfl, o2, o3, rfl⟩
    cases ps2 with
    | nil => cases hd
    | cons p ps2 =>
      obtain ⟨rfl, rfl⟩ := List.cons.inj hd
      refine ⟨trivial, _, rfl, ?_⟩
      have hm : p ∈ ruleL.zip m.list := by rw [hp]; simp
      have l0 : ((" " : Str)).length = 1 := rfl
      have h1 := Chs.len gm p hm
      have h2 := rl_len p.1 (List.of_mem_zip hm).1
      have hl : ps1.length < 11 := by
        have := congrArg List.length hp
        have h3 : (ruleL.zip m.list).length = 10 := rfl
        rw [h3] at this
        simp at this
        omega
      simp -implicitDefEqProofs -failIfUnchanged only [word_snoc, DL.runs_D14, DL.runs_D15, DL.runs_D16, DL.runs_D17, DL.runs_D19, DL.runs_D20, DL.runs_D23, DL.runs_D24, DL.runs_D25, DL.runs_D26, DL.runs_D31, DL.runs_D34, DL.runs_D36, DL.runs_mir, DL.runs_sp_exec, DL.runs_sp_fam2, Nat.reduceSub, Nat.reduceAdd, Nat.reduceLT, true_and, add_str (show p.1.length + ((" " : Str)).length ≤ sizeLine from le_sz (by omega)), add_str (show (p.1 ++ (" " : Str)).length + p.2.length ≤ sizeLine from le_sz (by rw [slen]; omega)), appF_ok (show ((ps1.map fun p : Str × Str => p.1 ++ (" " : Str) ++ p.2).map D.str).length < sizeLine from lt_sz (by simp; omega))]
      exact ⟨ps1 ++ [p], ps2, by simp [hp], rfl, by simp, _, _, rfl⟩
  · rintro ρ s' ⟨ps1, ps2, hp, hd, rfl, o2, o3, rfl⟩
    refine ⟨trivial, ?_⟩
    have e : ps2 = [] := by
      cases ps2 with
      | nil => rfl
      | cons _ _ => cases hd
    subst e
    rw [List.append_nil] at hp
    subst hp
    unfold kindsD
    simp -implicitDefEqProofs -failIfUnchanged only [word_snoc, DL.runs_D14, DL.runs_D15, DL.runs_D16, DL.runs_D17, DL.runs_D19, DL.runs_D20, DL.runs_D23, DL.runs_D24, DL.runs_D25, DL.runs_D26, DL.runs_D31, DL.runs_D34, DL.runs_D36, DL.runs_mir, DL.runs_sp_exec, DL.runs_sp_fam2, Nat.reduceSub, Nat.reduceAdd, Nat.reduceLT, true_and, ite_src (show (ks.map KD.ins).length ≤ sizeLine by simpa using g.sz)]
    refine loop_inv (fun ds ρ s' => ∃ k1 k2, ks = k1 ++ k2 ∧ ds = k2.map KD.ins ∧ s' = s.set a (.lst ((linesF m k1).map .str)) ∧ ∃ o4, ρ = [some (.ins "Family" ["maker", "kinds"] [m.ins, .tup (ks.map KD.ins)]), some (.ref a), o2, o3, o4]) _ _ _ ⟨[], ks, rfl, rfl, by simp [linesM, linesF], _, rfl⟩ ?_ ?_
    · rintro d ds ρ s' ⟨k1, k2, hk, hd, rfl, o4, rfl⟩
      cases k2 with
      | nil => cases hd
      | cons k k2 =>
        obtain ⟨rfl, rfl⟩ := List.cons.inj hd
        refine ⟨trivial, _, rfl, ?_⟩
        simp -implicitDefEqProofs -failIfUnchanged only [word_snoc, DL.runs_D14, DL.runs_D15, DL.runs_D16, DL.runs_D17, DL.runs_D19, DL.runs_D20, DL.runs_D23, DL.runs_D24, DL.runs_D25, DL.runs_D26, DL.runs_D31, DL.runs_D34, DL.runs_D36, DL.runs_mir, DL.runs_sp_exec, DL.runs_sp_fam2, Nat.reduceSub, Nat.reduceAdd, Nat.reduceLT, true_and]
        refine show_kind_wp (g.good k (by rw [hk]; simp)) ?_
        have hl : ((linesF m k1).map D.str).length + ((linesK k).map D.str).length ≤ sizeLine := by
          have h1 := flat_len k1
          have h2 := g.most
          have h3 : (linesM m).length = 10 := rfl
          have h4 := linesK_len k
          have h5 := congrArg List.length hk
          simp at h5
          unfold linesF
          exact le_sz (by rw [List.length_map, List.length_map, List.length_append]; omega)
        simp -implicitDefEqProofs -failIfUnchanged only [word_snoc, DL.runs_D14, DL.runs_D15, DL.runs_D16, DL.runs_D17, DL.runs_D19, DL.runs_D20, DL.runs_D23, DL.runs_D24, DL.runs_D25, DL.runs_D26, DL.runs_D31, DL.runs_D34, DL.runs_D36, DL.runs_mir, DL.runs_sp_exec, DL.runs_sp_fam2, Nat.reduceSub, Nat.reduceAdd, Nat.reduceLT, true_and, extF_ok hl]
        exact ⟨k1 ++ [k], k2, by simp [hk], rfl, by simp [linesF], _, rfl⟩
    · rintro ρ s' ⟨k1, k2, hk, hd, rfl, o4, rfl⟩
      refine ⟨trivial, ?_⟩
      have e : k2 = [] := by
        cases k2 with
        | nil => rfl
        | cons _ _ => cases hd
      subst e
      rw [List.append_nil] at hk
      subst hk
      simp -implicitDefEqProofs -failIfUnchanged only [word_snoc, DL.runs_D14, DL.runs_D15, DL.runs_D16, DL.runs_D17, DL.runs_D19, DL.runs_D20, DL.runs_D23, DL.runs_D24, DL.runs_D25, DL.runs_D26, DL.runs_D31, DL.runs_D34, DL.runs_D36, DL.runs_mir, DL.runs_sp_exec, DL.runs_sp_fam2, Nat.reduceSub, Nat.reduceAdd, Nat.reduceLT, true_and, join_ref (s := s.set a (.lst ((linesF m ks).map .str))) S.set_same (linesF_ok gm g), drop_lst ha]
      exact q
end
end DL
namespace DL
open PySem L2
section
variable {s : S} {Q : D → S → Prop} {E : Ex → S → Prop}
theorem shown_wp {m : MkD} {ks : List KD} (gm : m.Good) (g : FamGood ks) (q : Q (.lst ((linesF m ks).map .str)) s) : d_shown [rulesD m, .lst (ks.map KD.row)] s Q E := by
  unfold d_shown b_shown
  simp -implicitDefEqProofs -failIfUnchanged only [word_snoc, DL.runs_D14, DL.runs_D15, DL.runs_D16, DL.runs_D17, DL.runs_D19, DL.runs_D20, DL.runs_D23, DL.runs_D24, DL.runs_D25, DL.runs_D26, DL.runs_D31, DL.runs_D34, DL.runs_D36, DL.runs_mir, DL.runs_sp_exec, DL.runs_sp_fam2, Nat.reduceSub, Nat.reduceAdd, Nat.reduceLT, true_and]
  refine table_wp ?_
  unfold tableD
  simp -implicitDefEqProofs -failIfUnchanged only [word_snoc, DL.runs_D14, DL.runs_D15, DL.runs_D16, DL.runs_D17, DL.runs_D19, DL.runs_D20, DL.runs_D23, DL.runs_D24, DL.runs_D25, DL.runs_D26, DL.runs_D31, DL.runs_D34, DL.runs_D36, DL.runs_mir, DL.runs_sp_exec, DL.runs_sp_fam2, Nat.reduceSub, Nat.reduceAdd, Nat.reduceLT, true_and, ite_src (show (rcs.map fun p => D.tup [.str p.1, .tup (p.2.map .str)]).length ≤ sizeLine by decide)]
  have ez : rcs.map (fun p => D.tup [.str p.1, .tup (p.2.map .str)]) = (ruleL.zip (m.list.zip chL)).map fun p => D.tup [.str p.1, .tup (p.2.2.map .str)] := rfl
  rw [ez]
  refine lc_pure (fun p : Str × Str × List Str => D.tup [.str p.1, .tup (p.2.2.map .str)]) (fun p => .str (p.1 ++ (" " : Str) ++ p.2.1)) _ [] trivial (fun p hp => ⟨_, rfl, ?_⟩) ?_
  · have hm : (p.1, p.2.1) ∈ ruleL.zip m.list := by
      obtain ⟨i, hi, rfl⟩ := List.getElem_of_mem hp
      rw [List.getElem_zip, List.getElem_zip]
      have hi' : i < 10 := by simpa [ruleL, MkD.list, chL] using hi
      have : (ruleL.zip m.list)[i]'(by simpa [ruleL, MkD.list] using hi') = (ruleL[i]'hi', m.list[i]'hi') := List.getElem_zip
      have h9 := List.getElem_mem (l := ruleL.zip m.list) (n := i) (by simpa [ruleL, MkD.list] using hi')
      rw [this] at h9
      exact h9
    have l0 : ((" " : Str)).length = 1 := rfl
    have h1 := Chs.len gm _ hm
    have h2 := rl_len p.1 (List.of_mem_zip hm).1
    have h1 : p.2.1.length ≤ 9 := h1
    simp -implicitDefEqProofs -failIfUnchanged only [word_snoc, DL.runs_D14, DL.runs_D15, DL.runs_D16, DL.runs_D17, DL.runs_D19, DL.runs_D20, DL.runs_D23, DL.runs_D24, DL.runs_D25, DL.runs_D26, DL.runs_D31, DL.runs_D34, DL.runs_D36, DL.runs_mir, DL.runs_sp_exec, DL.runs_sp_fam2, Nat.reduceSub, Nat.reduceAdd, Nat.reduceLT, true_and, get_rule hm, add_str (show p.1.length + ((" " : Str)).length ≤ sizeLine from le_sz (by omega)), add_str (show (p.1 ++ (" " : Str)).length + p.2.1.length ≤ sizeLine from le_sz (by rw [slen]; omega))]
  have ey : (ruleL.zip (m.list.zip chL)).map (fun p => D.str (p.1 ++ (" " : Str) ++ p.2.1)) = (linesF m []).map .str := rfl
  rw [ey]
  simp -implicitDefEqProofs -failIfUnchanged only [word_snoc, DL.runs_D14, DL.runs_D15, DL.runs_D16, DL.runs_D17, DL.runs_D19, DL.runs_D20, DL.runs_D23, DL.runs_D24, DL.runs_D25, DL.runs_D26, DL.runs_D31, DL.runs_D34, DL.runs_D36, DL.runs_mir, DL.runs_sp_exec, DL.runs_sp_fam2, Nat.reduceSub, Nat.reduceAdd, Nat.reduceLT, true_and]
  intro a ha
  simp -implicitDefEqProofs -failIfUnchanged only [word_snoc, DL.runs_D14, DL.runs_D15, DL.runs_D16, DL.runs_D17, DL.runs_D19, DL.runs_D20, DL.runs_D23, DL.runs_D24, DL.runs_D25, DL.runs_D26, DL.runs_D31, DL.runs_D34, DL.runs_D36, DL.runs_mir, DL.runs_sp_exec, DL.runs_sp_fam2, Nat.reduceSub, Nat.reduceAdd, Nat.reduceLT, true_and, ite_src (show (ks.map KD.row).length ≤ sizeLine by simpa using g.sz)]
  refine loop_inv (fun ds ρ s' => ∃ k1 k2, ks = k1 ++ k2 ∧ ds = k2.map KD.row ∧ s' = s.set a (.lst ((linesF m k1).map .str)) ∧ ∃ o3 o4, ρ = [some (rulesD m), some (.lst (ks.map KD.row)), some (.ref a), o3, o4]) _ _ _ ⟨[], ks, rfl, rfl, rfl, _, _, rfl⟩ ?_ ?_
  · rintro d ds ρ s' ⟨k1, k2, hk, hd, rfl, o3, o4, rfl⟩
    cases k2 with
    | nil => cases hd
    | cons k k2 =>
      obtain ⟨rfl, rfl⟩ := List.cons.inj hd
      have gk := g.good k (by rw [hk]; simp)
      have hl : ((linesF m k1).map D.str).length < 100 := by
        have h1 := flat_len k1
        have h2 := g.most
        have h3 : (linesM m).length = 10 := rfl
        have h5 := congrArg List.length hk
        simp at h5
        unfold linesF
        rw [List.length_map, List.length_append]; omega
      have hn : k.name.length ≤ 8 := nlen gk.name
      have l1 : (("kind " : Str)).length = 5 := rfl
      have l2 : (("(" : Str)).length = 1 := rfl
      have l3 : ((")" : Str)).length = 1 := rfl
      have l4 : ((" own" : Str)).length = 4 := rfl
      have l5 : (("begin " : Str)).length = 6 := rfl
      have l6 : ((" guarded" : Str)).length = 8 := rfl
      refine ⟨trivial, _, rfl, ?_⟩
      simp -implicitDefEqProofs -failIfUnchanged only [word_snoc, DL.runs_D14, DL.runs_D15, DL.runs_D16, DL.runs_D17, DL.runs_D19, DL.runs_D20, DL.runs_D23, DL.runs_D24, DL.runs_D25, DL.runs_D26, DL.runs_D31, DL.runs_D34, DL.runs_D36, DL.runs_mir, DL.runs_sp_exec, DL.runs_sp_fam2, Nat.reduceSub, Nat.reduceAdd, Nat.reduceLT, true_and, ix_row0, add_str (show (("kind " : Str)).length + k.name.length ≤ sizeLine from le_sz (by omega))]
      refine cutC (fun ρ' s' => s' = s.set a (.lst ((linesF m k1).map .str)) ∧ ∃ z : Str, z = (("kind " : Str) ++ k.name) ++ baseS k.base ∧ z.length ≤ 30 ∧ ρ' = [some (rulesD m), some (.lst (ks.map KD.row)), some (.ref a), some k.row, some (.str z)]) ?_ ?_
      · simp -implicitDefEqProofs -failIfUnchanged only [word_snoc, DL.runs_D14, DL.runs_D15, DL.runs_D16, DL.runs_D17, DL.runs_D19, DL.runs_D20, DL.runs_D23, DL.runs_D24, DL.runs_D25, DL.runs_D26, DL.runs_D31, DL.runs_D34, DL.runs_D36, DL.runs_mir, DL.runs_sp_exec, DL.runs_sp_fam2, Nat.reduceSub, Nat.reduceAdd, Nat.reduceLT, true_and, ix_row1, oStr_non]
        cases e : k.base with
        | none =>
          simp -implicitDefEqProofs -failIfUnchanged only [word_snoc, DL.runs_D14, DL.runs_D15, DL.runs_D16, DL.runs_D17, DL.runs_D19, DL.runs_D20, DL.runs_D23, DL.runs_D24, DL.runs_D25, DL.runs_D26, DL.runs_D31, DL.runs_D34, DL.runs_D36, DL.runs_mir, DL.runs_sp_exec, DL.runs_sp_fam2, Nat.reduceSub, Nat.reduceAdd, Nat.reduceLT, true_and, Option.isNone]
          exact ⟨_, rfl, by rw [baseS, sapp_nil, slen]; omega, by rw [baseS, sapp_nil]⟩
        | some b =>
          have hb : b.length ≤ 8 := nlen (gk.base b e)
          simp -implicitDefEqProofs -failIfUnchanged only [word_snoc, DL.runs_D14, DL.runs_D15, DL.runs_D16, DL.runs_D17, DL.runs_D19, DL.runs_D20, DL.runs_D23, DL.runs_D24, DL.runs_D25, DL.runs_D26, DL.runs_D31, DL.runs_D34, DL.runs_D36, DL.runs_mir, DL.runs_sp_exec, DL.runs_sp_fam2, Nat.reduceSub, Nat.reduceAdd, Nat.reduceLT, true_and, Option.isNone, ix_row1, e, add_str (show (("kind " : Str) ++ k.name).length + (("(" : Str)).length ≤ sizeLine from le_sz (by rw [slen]; omega)), add_str (show (("kind " : Str) ++ k.name ++ ("(" : Str)).length + b.length ≤ sizeLine from le_sz (by rw [slen, slen]; omega)), add_str (show (("kind " : Str) ++ k.name ++ ("(" : Str) ++ b).length + ((")" : Str)).length ≤ sizeLine from le_sz (by rw [slen, slen, slen]; omega))]
          exact ⟨_, rfl, by simp only [baseS, slen]; omega, by simp only [baseS, sapp]⟩
      · rintro ρ' s' ⟨rfl, z, hz, hzl, rfl⟩
        simp -implicitDefEqProofs -failIfUnchanged only [word_snoc, DL.runs_D14, DL.runs_D15, DL.runs_D16, DL.runs_D17, DL.runs_D19, DL.runs_D20, DL.runs_D23, DL.runs_D24, DL.runs_D25, DL.runs_D26, DL.runs_D31, DL.runs_D34, DL.runs_D36, DL.runs_mir, DL.runs_sp_exec, DL.runs_sp_fam2, Nat.reduceSub, Nat.reduceAdd, Nat.reduceLT, true_and]
        refine cutC (fun ρ' s' => s' = s.set a (.lst ((linesF m k1).map .str)) ∧ ρ' = [some (rulesD m), some (.lst (ks.map KD.row)), some (.ref a), some k.row, some (.str (line1 k))]) ?_ ?_
        · simp -implicitDefEqProofs -failIfUnchanged only [word_snoc, DL.runs_D14, DL.runs_D15, DL.runs_D16, DL.runs_D17, DL.runs_D19, DL.runs_D20, DL.runs_D23, DL.runs_D24, DL.runs_D25, DL.runs_D26, DL.runs_D31, DL.runs_D34, DL.runs_D36, DL.runs_mir, DL.runs_sp_exec, DL.runs_sp_fam2, Nat.reduceSub, Nat.reduceAdd, Nat.reduceLT, true_and, ix_row2]
          refine selB_of (fun h => ?_) fun h => ?_
          · simp -implicitDefEqProofs -failIfUnchanged only [word_snoc, DL.runs_D14, DL.runs_D15, DL.runs_D16, DL.runs_D17, DL.runs_D19, DL.runs_D20, DL.runs_D23, DL.runs_D24, DL.runs_D25, DL.runs_D26, DL.runs_D31, DL.runs_D34, DL.runs_D36, DL.runs_mir, DL.runs_sp_exec, DL.runs_sp_fam2, Nat.reduceSub, Nat.reduceAdd, Nat.reduceLT, true_and, add_str (show z.length + ((" own" : Str)).length ≤ sizeLine from le_sz (by omega))]
            unfold line1
            rw [if_pos h, hz]
          · simp -implicitDefEqProofs -failIfUnchanged only [word_snoc, DL.runs_D14, DL.runs_D15, DL.runs_D16, DL.runs_D17, DL.runs_D19, DL.runs_D20, DL.runs_D23, DL.runs_D24, DL.runs_D25, DL.runs_D26, DL.runs_D31, DL.runs_D34, DL.runs_D36, DL.runs_mir, DL.runs_sp_exec, DL.runs_sp_fam2, Nat.reduceSub, Nat.reduceAdd, Nat.reduceLT, true_and]
            unfold line1
            rw [if_neg (by rw [h]; simp), sapp_nil, hz]
        · rintro ρ' s' ⟨rfl, rfl⟩
          simp -implicitDefEqProofs -failIfUnchanged only [word_snoc, DL.runs_D14, DL.runs_D15, DL.runs_D16, DL.runs_D17, DL.runs_D19, DL.runs_D20, DL.runs_D23, DL.runs_D24, DL.runs_D25, DL.runs_D26, DL.runs_D31, DL.runs_D34, DL.runs_D36, DL.runs_mir, DL.runs_sp_exec, DL.runs_sp_fam2, Nat.reduceSub, Nat.reduceAdd, Nat.reduceLT, true_and, appF_ok (show ((linesF m k1).map D.str).length < sizeLine from lt_sz (by omega)), ix_row3]
          have e2 : ∀ y : Str, List.map D.str (linesF m k1) ++ [D.str y] = (linesF m k1 ++ [y]).map .str := fun y => by simp
          cases e : k.beg with
          | none =>
            simp -implicitDefEqProofs -failIfUnchanged only [word_snoc, DL.runs_D14, DL.runs_D15, DL.runs_D16, DL.runs_D17, DL.runs_D19, DL.runs_D20, DL.runs_D23, DL.runs_D24, DL.runs_D25, DL.runs_D26, DL.runs_D31, DL.runs_D34, DL.runs_D36, DL.runs_mir, DL.runs_sp_exec, DL.runs_sp_fam2, Nat.reduceSub, Nat.reduceAdd, Nat.reduceLT, true_and, begD]
            refine ⟨k1 ++ [k], k2, by simp [hk], rfl, ?_, _, _, rfl⟩
            have e4 : linesF m (k1 ++ [k]) = linesF m k1 ++ [line1 k] := by simp [linesF, linesK, e]
            rw [e4]; simp
          | some p =>
            obtain ⟨up, gd⟩ := p
            have hu : up.length ≤ 5 := ulen up (gk.beg _ e)
            have e4 : linesF m (k1 ++ [k]) = linesF m k1 ++ [line1 k] ++ [line2 (up, gd)] := by simp [linesF, linesK, e]
            simp -implicitDefEqProofs -failIfUnchanged only [word_snoc, DL.runs_D14, DL.runs_D15, DL.runs_D16, DL.runs_D17, DL.runs_D19, DL.runs_D20, DL.runs_D23, DL.runs_D24, DL.runs_D25, DL.runs_D26, DL.runs_D31, DL.runs_D34, DL.runs_D36, DL.runs_mir, DL.runs_sp_exec, DL.runs_sp_fam2, Nat.reduceSub, Nat.reduceAdd, Nat.reduceLT, true_and, begD, ix_row3, e, isNon_tup, add_str (show (("begin " : Str)).length + up.length ≤ sizeLine from le_sz (by omega))]
            refine cutC (fun ρ' s' => s' = s.set a (.lst ((linesF m k1).map .str ++ [.str (line1 k)])) ∧ ρ' = [some (rulesD m), some (.lst (ks.map KD.row)), some (.ref a), some k.row, some (.str (line2 (up, gd)))]) ?_ ?_
            · simp -implicitDefEqProofs -failIfUnchanged only [word_snoc, DL.runs_D14, DL.runs_D15, DL.runs_D16, DL.runs_D17, DL.runs_D19, DL.runs_D20, DL.runs_D23, DL.runs_D24, DL.runs_D25, DL.runs_D26, DL.runs_D31, DL.runs_D34, DL.runs_D36, DL.runs_mir, DL.runs_sp_exec, DL.runs_sp_fam2, Nat.reduceSub, Nat.reduceAdd, Nat.reduceLT, true_and, ix_row3, e, begD]
              cases gd with
              | true =>
                simp -implicitDefEqProofs -failIfUnchanged only [word_snoc, DL.runs_D14, DL.runs_D15, DL.runs_D16, DL.runs_D17, DL.runs_D19, DL.runs_D20, DL.runs_D23, DL.runs_D24, DL.runs_D25, DL.runs_D26, DL.runs_D31, DL.runs_D34, DL.runs_D36, DL.runs_mir, DL.runs_sp_exec, DL.runs_sp_fam2, Nat.reduceSub, Nat.reduceAdd, Nat.reduceLT, true_and, add_str (show (("begin " : Str) ++ up).length + ((" guarded" : Str)).length ≤ sizeLine from le_sz (by rw [slen]; omega))]
                rfl
              | false =>
                simp -implicitDefEqProofs -failIfUnchanged only [word_snoc, DL.runs_D14, DL.runs_D15, DL.runs_D16, DL.runs_D17, DL.runs_D19, DL.runs_D20, DL.runs_D23, DL.runs_D24, DL.runs_D25, DL.runs_D26, DL.runs_D31, DL.runs_D34, DL.runs_D36, DL.runs_mir, DL.runs_sp_exec, DL.runs_sp_fam2, Nat.reduceSub, Nat.reduceAdd, Nat.reduceLT, true_and]
                show _ = [_, _, _, _, some (D.str (("begin " : Str) ++ up ++ ("" : Str)))]
                rw [sapp_nil]
            · rintro ρ' s' ⟨rfl, rfl⟩
              simp -implicitDefEqProofs -failIfUnchanged only [word_snoc, DL.runs_D14, DL.runs_D15, DL.runs_D16, DL.runs_D17, DL.runs_D19, DL.runs_D20, DL.runs_D23, DL.runs_D24, DL.runs_D25, DL.runs_D26, DL.runs_D31, DL.runs_D34, DL.runs_D36, DL.runs_mir, DL.runs_sp_exec, DL.runs_sp_fam2, Nat.reduceSub, Nat.reduceAdd, Nat.reduceLT, true_and, appF_ok (show ((linesF m k1).map D.str ++ [D.str (line1 k)]).length < sizeLine from lt_sz (by rw [List.length_append]; show _ + 1 < _; omega))]
              refine ⟨k1 ++ [k], k2, by simp [hk], rfl, ?_, _, _, rfl⟩
              rw [e4]; simp
  · rintro ρ s' ⟨k1, k2, hk, hd, rfl, o3, o4, rfl⟩
    refine ⟨trivial, ?_⟩
    have e : k2 = [] := by
      cases k2 with
      | nil => rfl
      | cons _ _ => cases hd
    subst e
    rw [List.append_nil] at hk
    subst hk
    simp -implicitDefEqProofs -failIfUnchanged only [word_snoc, DL.runs_D14, DL.runs_D15, DL.runs_D16, DL.runs_D17, DL.runs_D19, DL.runs_D20, DL.runs_D23, DL.runs_D24, DL.runs_D25, DL.runs_D26, DL.runs_D31, DL.runs_D34, DL.runs_D36, DL.runs_mir, DL.runs_sp_exec, DL.runs_sp_fam2, Nat.reduceSub, Nat.reduceAdd, Nat.reduceLT, true_and, freezeE_lst ha]
    exact q
end
end DL
namespace DL
open PySem L2
section
variable {s : S} {P : S → Prop} {f : D → Env → Option Env} {p : Env → MS} {QF : Fl → S → Prop} {EE : Ex × Env → S → Prop}
theorem loop_test {α : Type} [MB p] (el : α → D) (R : Env → Prop) (k : α → Bool) (r : α → D) : ∀ (xs : List α) (ρ : Env), P s → R ρ →
    (∀ x ∈ xs, ∀ ρ, R ρ → ∃ ρ1, f (el x) ρ = some ρ1 ∧ p ρ1 s (fun fl s' => s' = s ∧ ((k x = true ∧ ∃ ρ', fl = .nx ρ' ∧ R ρ') ∨ (k x = false ∧ fl = .rt (r x)))) (fun _ _ => False)) →
    ((∀ x ∈ xs, k x = true) → ∀ ρ, R ρ → QF (.nx ρ) s) → (∀ x, xs.find? (fun y => !k y) = some x → QF (.rt (r x)) s) → loopS P f p (xs.map el) ρ s QF EE
  | [], ρ, hP, h0, _, q1, _ => ⟨hP, q1 (fun _ h => by cases h) ρ h0⟩
  | x :: xs, ρ, hP, h0, h, q1, q2 => by
    rw [List.map_cons, x_loop_cons]
    obtain ⟨ρ1, h1, h2⟩ := h x List.mem_cons_self ρ h0
    refine ⟨hP, ρ1, h1, MB.mono ρ1 _ _ _ _ _ (fun fl s' z => ?_) (fun _ _ z => z.elim) h2⟩
    obtain ⟨es, ⟨hk, ρ', rfl, hR⟩ | ⟨hk, rfl⟩⟩ := z
    · rw [x_turn_nx, es]
      refine loop_test el R k r xs ρ' hP hR (fun y hy => h y (List.mem_cons_of_mem _ hy)) (fun ha => q1 fun y hy => ?_) fun y hy => q2 y ?_
      · rcases List.mem_cons.mp hy with rfl | hy
        · exact hk
        · exact ha y hy
      · rw [List.find?_cons_of_neg (by rw [hk]; decide)]; exact hy
    · rw [x_turn_rt, es]
      exact q2 x (List.find?_cons_of_pos (by rw [hk]; rfl))
end
end DL
namespace DL
open PySem L2
section
variable {s : S} {Q : D → S → Prop} {E : Ex → S → Prop} {cs : List Str}
theorem isiT_non : isiTs cs ["tuple", "list"] s .non = some false := rfl
theorem isiT_bl {b : Bool} : isiTs cs ["tuple", "list"] s (.bl b) = some false := rfl
theorem isiT_int {i : Int} : isiTs cs ["tuple", "list"] s (.int i) = some false := rfl
theorem isiT_str {z : Str} : isiTs cs ["tuple", "list"] s (.str z) = some false := rfl
theorem isiT_tup {xs : List D} : isiTs cs ["tuple", "list"] s (.tup xs) = some true := rfl
theorem isiT_lst {xs : List D} : isiTs cs ["tuple", "list"] s (.lst xs) = some true := rfl
theorem lt_sz0 : (0 < sizeLine) = True := eq_true (by decide)
theorem lt_sz1 : (1 < sizeLine) = True := eq_true (by decide)
theorem lt_sz2 : (2 < sizeLine) = True := eq_true (by decide)
theorem lt_sz3 : (3 < sizeLine) = True := eq_true (by decide)
theorem lt_sz4 : (4 < sizeLine) = True := eq_true (by decide)
theorem lt_sz5 : (5 < sizeLine) = True := eq_true (by decide)
theorem lt_sz6 : (6 < sizeLine) = True := eq_true (by decide)
theorem lt_sz7 : (7 < sizeLine) = True := eq_true (by decide)
theorem lt_sz8 : (8 < sizeLine) = True := eq_true (by decide)
theorem lt_sz9 : (9 < sizeLine) = True := eq_true (by decide)
theorem lt_sz10 : (10 < sizeLine) = True := eq_true (by decide)
theorem lt_sz11 : (11 < sizeLine) = True := eq_true (by decide)
theorem lt_sz12 : (12 < sizeLine) = True := eq_true (by decide)
theorem lt_sz13 : (13 < sizeLine) = True := eq_true (by decide)
theorem lt_sz14 : (14 < sizeLine) = True := eq_true (by decide)
theorem lt_sz15 : (15 < sizeLine) = True := eq_true (by decide)
theorem lt_sz16 : (16 < sizeLine) = True := eq_true (by decide)
theorem lt_sz17 : (17 < sizeLine) = True := eq_true (by decide)
theorem lt_sz18 : (18 < sizeLine) = True := eq_true (by decide)
theorem lt_sz19 : (19 < sizeLine) = True := eq_true (by decide)
theorem lt_sz20 : (20 < sizeLine) = True := eq_true (by decide)
theorem eq_strs {as bs : List Str} (ha : ∀ c ∈ as, PyData.strOk c = true) (hb : ∀ c ∈ bs, PyData.strOk c = true) : eqD (.tup (as.map .str)) (.tup (bs.map .str)) s = some (.bl (decide (as = bs))) := by
  obtain ⟨b, h1, h2⟩ := eqD_tup (s := s) (xs := as.map .str) (y := .tup (bs.map .str)) rfl (okEs_strs.mpr ha) (by unfold okE; exact okEs_strs.mpr hb) (by rw [dep_strs]; decide) (by unfold depE; rw [dep_strs]; decide) (by unfold noMix; exact mix_strs)
  have e : b = decide (as = bs) := by
    rw [Bool.eq_iff_iff, h2, decide_eq_true_eq]
    refine ⟨fun h => ?_, fun h => by rw [h]⟩
    have h := D.tup.inj h
    exact List.map_inj_right (fun _ _ e => D.str.inj e) |>.mp h
  rw [← e]
  exact h1
end
end DL
namespace DL
def runs_sp_lit := And.intro @isiT_non (And.intro @isiT_bl (And.intro @isiT_int (And.intro @isiT_str (And.intro @isiT_tup (And.intro @isiT_lst (And.intro @lt_sz0 (And.intro @lt_sz1 (And.intro @lt_sz2 (And.intro @lt_sz3 (And.intro @lt_sz4 (And.intro @lt_sz5 (And.intro @lt_sz6 (And.intro @lt_sz7 (And.intro @lt_sz8 (And.intro @lt_sz9 (And.intro @lt_sz10 (And.intro @lt_sz11 (And.intro @lt_sz12 (And.intro @lt_sz13 (And.intro @lt_sz14 (And.intro @lt_sz15 (And.intro @lt_sz16 (And.intro @lt_sz17 (And.intro @lt_sz18 (And.intro @lt_sz19 (@lt_sz20))))))))))))))))))))))))))
end DL
namespace DL
open PySem L2
section
variable {s : S} {Q : D → S → Prop} {E : Ex → S → Prop}
structure TmD where
  heirs : Str
  begins : List Str
  guarded : Bool
  arguments : Bool
  stops : Bool
  asks : Bool
  changes : Bool
deriving DecidableEq
def heirsL : List Str := ["none", "plain", "placed", "free"]
def TmD.ins (x : TmD) : D := .ins "Terms" ["heirs", "begins", "guarded", "arguments", "stops", "asks", "changes"] [.str x.heirs, .tup (x.begins.map .str), .bl x.guarded, .bl x.arguments, .bl x.stops, .bl x.asks, .bl x.changes]
def TmD.row (x : TmD) : D := .tup [.str x.heirs, .tup (x.begins.map .str), .bl x.guarded, .bl x.arguments, .bl x.stops, .bl x.asks, .bl x.changes]
def TmD.kvs (x : TmD) : List (Key × D) := [(.inr "heirs", .str x.heirs), (.inr "begins", .tup (x.begins.map .str)), (.inr "guarded", .bl x.guarded), (.inr "arguments", .bl x.arguments), (.inr "stops", .bl x.stops), (.inr "asks", .bl x.asks), (.inr "changes", .bl x.changes)]
def TmD.dic (x : TmD) : D := .dic (x.kvs.map (·.1)) (x.kvs.map (·.2))
structure TmD.Good (x : TmD) : Prop where
  heirs : x.heirs ∈ heirsL
  begins : x.begins.Sublist upsL
section
variable {x y : TmD}
theorem fld_tm0 : fldD "Terms" "heirs" x.ins s = some (.str x.heirs) := rfl
theorem fld_tm1 : fldD "Terms" "begins" x.ins s = some (.tup (x.begins.map .str)) := rfl
theorem fld_tm2 : fldD "Terms" "guarded" x.ins s = some (.bl x.guarded) := rfl
theorem fld_tm3 : fldD "Terms" "arguments" x.ins s = some (.bl x.arguments) := rfl
theorem fld_tm4 : fldD "Terms" "stops" x.ins s = some (.bl x.stops) := rfl
theorem fld_tm5 : fldD "Terms" "asks" x.ins s = some (.bl x.asks) := rfl
theorem fld_tm6 : fldD "Terms" "changes" x.ins s = some (.bl x.changes) := rfl
theorem iok_tm : insOk "Terms" "written" x.ins s = some () := rfl
end
end
end DL
namespace DL
def runs_sp_terms := And.intro @fld_tm0 (And.intro @fld_tm1 (And.intro @fld_tm2 (And.intro @fld_tm3 (And.intro @fld_tm4 (And.intro @fld_tm5 (And.intro @fld_tm6 (@iok_tm)))))))
end DL
namespace DL
open PySem L2
theorem put_n2 {v0 v1 v2 : D} : putKD ([(.inr "heirs", v0), (.inr "begins", v1)] : List (Key × D)) (.inr "guarded") v2 = [(.inr "heirs", v0), (.inr "begins", v1), (.inr "guarded", v2)] := rfl
theorem put_n3 {v0 v1 v2 v3 : D} : putKD ([(.inr "heirs", v0), (.inr "begins", v1), (.inr "guarded", v2)] : List (Key × D)) (.inr "arguments") v3 = [(.inr "heirs", v0), (.inr "begins", v1), (.inr "guarded", v2), (.inr "arguments", v3)] := rfl
theorem put_n4 {v0 v1 v2 v3 v4 : D} : putKD ([(.inr "heirs", v0), (.inr "begins", v1), (.inr "guarded", v2), (.inr "arguments", v3)] : List (Key × D)) (.inr "stops") v4 = [(.inr "heirs", v0), (.inr "begins", v1), (.inr "guarded", v2), (.inr "arguments", v3), (.inr "stops", v4)] := rfl
theorem put_n5 {v0 v1 v2 v3 v4 v5 : D} : putKD ([(.inr "heirs", v0), (.inr "begins", v1), (.inr "guarded", v2), (.inr "arguments", v3), (.inr "stops", v4)] : List (Key × D)) (.inr "asks") v5 = [(.inr "heirs", v0), (.inr "begins", v1), (.inr "guarded", v2), (.inr "arguments", v3), (.inr "stops", v4), (.inr "asks", v5)] := rfl
theorem put_n6 {v0 v1 v2 v3 v4 v5 v6 : D} : putKD ([(.inr "heirs", v0), (.inr "begins", v1), (.inr "guarded", v2), (.inr "arguments", v3), (.inr "stops", v4), (.inr "asks", v5)] : List (Key × D)) (.inr "changes") v6 = [(.inr "heirs", v0), (.inr "begins", v1), (.inr "guarded", v2), (.inr "arguments", v3), (.inr "stops", v4), (.inr "asks", v5), (.inr "changes", v6)] := rfl
section
variable {x : TmD}
end
section
variable {s : S} {Q : D → S → Prop} {E : Ex → S → Prop} {x : TmD}
end
end DL
namespace DL
def runs_sp_putn := And.intro @put_n2 (And.intro @put_n3 (And.intro @put_n4 (And.intro @put_n5 (@put_n6))))
end DL
namespace DL
open PySem L2
theorem okEs_all : ∀ {xs : List D}, (∀ x ∈ xs, okE x = true) → okEs xs = true
  | [], _ => rfl
  | x :: xs, h => by
    unfold okEs
    rw [h x List.mem_cons_self, okEs_all fun y hy => h y (List.mem_cons_of_mem _ hy)]; rfl
theorem depEs_all {n : Nat} : ∀ {xs : List D}, (∀ x ∈ xs, depE x ≤ n) → depEs xs ≤ n
  | [], _ => Nat.zero_le _
  | x :: xs, h => by
    unfold depEs
    exact Nat.max_le.mpr ⟨h x List.mem_cons_self, depEs_all fun y hy => h y (List.mem_cons_of_mem _ hy)⟩
theorem cutS_lo {z : Str} {n : Nat} : (cutS z (some (n : Int)) none).cps.toList = z.cps.toList.drop n := by
  unfold cutS
  have h1 : HT.sIx z.length 0 (some (n : Int)) = min n z.length := HT.sIx_nat _ _ n
  have h2 : HT.sIx z.length z.length none = z.length := rfl
  rw [h1, h2]
  show (((z.cps.toList.drop (min n z.length)).take (z.length - min n z.length)).toArray).toList = _
  rw [len_list]
  by_cases h : n ≤ z.cps.toList.length
  · rw [Nat.min_eq_left h]
    show List.take (z.cps.toList.length - n) (List.drop n z.cps.toList) = _
    exact List.take_of_length_le (by simp)
  · rw [Nat.min_eq_right (by omega), List.drop_eq_nil_of_le (Nat.le_refl _), List.drop_eq_nil_of_le (show z.cps.toList.length ≤ n by omega)]
    simp
theorem len_app (a b : Str) : (a ++ b).length = a.length + b.length := by
  rw [len_list, str_app, List.length_append, ← len_list, ← len_list]
theorem sl_str {z : Str} {lo hi : Option Int} (h : z.length ≤ 1000) : slD (.str z) lo hi = some (.str (cutS z lo hi)) := by
  show (if z.length ≤ sizeLine then some (D.str (cutS z lo hi)) else none) = _
  rw [if_pos (Nat.le_trans h (by decide))]
end DL
namespace DL
open PySem L2
theorem str_ext {a b : Str} (h : a.cps.toList = b.cps.toList) : a = b := by
  obtain ⟨⟨a⟩⟩ := a; obtain ⟨⟨b⟩⟩ := b
  have h : a = b := h
  rw [h]
theorem starts_is (x y : Str) : Txt.startswith x y = (decide (y.length ≤ x.length) && (x.cps.toList.take y.length == y.cps.toList)) := by
  unfold Txt.startswith
  rw [Nat.zero_add, StrLaws.subAt_eq, List.drop_zero]
theorem ends_is (x y : Str) : Txt.endswith x y = (decide (y.length ≤ x.length) && ((x.cps.toList.drop (x.length - y.length)).take y.length == y.cps.toList)) := by
  unfold Txt.endswith
  rw [Nat.zero_add, StrLaws.subAt_eq]
theorem st_app (a b : Str) : Txt.startswith (a ++ b) a = true := by
  rw [starts_is, len_app, decide_eq_true (by omega), str_app, len_list]
  simp
theorem en_app (a b : Str) : Txt.endswith (a ++ b) b = true := by
  rw [ends_is, len_app, decide_eq_true (by omega), str_app, Nat.add_sub_cancel, len_list, len_list, List.drop_left, List.take_length]
  simp
theorem en_no {x y : Str} {c : Nat} (h1 : c ∈ y.cps.toList) (h2 : c ∉ x.cps.toList) : Txt.endswith x y = false := by
  rw [Bool.eq_false_iff]
  intro h
  rw [ends_is, Bool.and_eq_true] at h
  have e := beq_iff_eq.mp h.2
  rw [← e] at h1
  exact h2 (List.mem_of_mem_drop (List.mem_of_mem_take h1))
theorem cut_from (a b : Str) : cutS (a ++ b) (some (a.length : Nat)) none = b := by
  refine str_ext ?_
  rw [cutS_lo, str_app, len_list, List.drop_left]
theorem cut_to {a b : Str} {n : Nat} (hn : b.length = n) (h0 : 0 < n) : cutS (a ++ b) none (some (-(n : Int))) = a := by
  refine str_ext ?_
  unfold cutS
  have e : HT.sIx (a ++ b).length (a ++ b).length (some (-(n : Int))) = a.length := by
    unfold HT.sIx
    have : (-(n : Int) < 0) = True := eq_true (by omega)
    simp only [this, if_true]
    rw [len_app, hn]; omega
  rw [e, show HT.sIx (a ++ b).length 0 none = 0 from rfl, List.drop_zero, Nat.sub_zero, str_app, len_list, List.take_left]
end DL
namespace DL
open PySem L2
section
variable {s : S} {Q : D → S → Prop} {E : Ex → S → Prop} {a : Addr}
theorem x_hdl_y {ρ : Env} {QF : Fl → S → Prop} {EE : Ex × Env → S → Prop} {sub : Str → Str → Option Bool} {c c' : Str} {i : Option Nat} {fh : Ex → Env → MS} {l : List HD} {ns : List Str} {vs : List D} (e : sub c c' = some true) : hdl sub (⟨c', i, fh⟩ :: l) ⟨c, ns, vs⟩ ρ s QF EE = suM ⟨c', i, fh⟩ ⟨c, ns, vs⟩ ρ s QF EE := x_hdl_yes e
theorem x_hdl_n {ρ : Env} {QF : Fl → S → Prop} {EE : Ex × Env → S → Prop} {sub : Str → Str → Option Bool} {c c' : Str} {i : Option Nat} {fh : Ex → Env → MS} {l : List HD} {ns : List Str} {vs : List D} (e : sub c c' = some false) : hdl sub (⟨c', i, fh⟩ :: l) ⟨c, ns, vs⟩ ρ s QF EE = hdl sub l ⟨c, ns, vs⟩ ρ s QF EE := x_hdl_no e
theorem e_lookup1 {f : Str} {v : D} : (([f].zip [v]).lookup f) = some v := by simp
theorem e_le1000_1 : ((0 : Nat) + 1 ≤ 1000) = True := eq_true (by decide)
end
end DL
namespace DL
def runs_sp_refused := And.intro @x_hdl_y (And.intro @x_hdl_n (And.intro @e_lookup1 (@e_le1000_1)))
end DL
namespace DL
open PySem L2
section
variable {s : S} {Q : D → S → Prop} {E : Ex → S → Prop} {ks : List KD}
inductive FBad where
  | many | twice (n : Str) | base (b : Str)
def FBad.ex : FBad → Ex
  | .many => ⟨"TooMany", ["what"], [.str "kinds"]⟩
  | .twice n => ⟨"Twice", ["name"], [.str n]⟩
  | .base b => ⟨"NoBase", ["base"], [.str b]⟩
def FBad.row : FBad → D
  | .many => .tup [.str "many", .str "kinds"]
  | .twice n => .tup [.str "twice", .str n]
  | .base b => .tup [.str "base", .str b]
end
end DL
namespace DL
open PySem L2
def chkF (P : Str → Prop) : List KD → Prop
  | [] => True
  | k :: r => ¬ P k.name ∧ (∀ b, k.base = some b → P b) ∧ chkF (fun z => P z ∨ z = k.name) r
theorem chk_cons {P : Str → Prop} {k : KD} {r : List KD} : chkF P (k :: r) ↔ ¬ P k.name ∧ (∀ b, k.base = some b → P b) ∧ chkF (fun z => P z ∨ z = k.name) r := Iff.rfl
def addP (P : Str → Prop) (ns : List Str) : Str → Prop := fun z => P z ∨ z ∈ ns
theorem addP_nil {P : Str → Prop} : addP P [] = P := funext fun z => propext (by simp [addP])
theorem addP_cons {P : Str → Prop} {n : Str} {ns : List Str} : addP (fun z => P z ∨ z = n) ns = addP P (n :: ns) := funext fun z => propext (by simp [addP, or_assoc])
theorem chk_app : ∀ {xs ys : List KD} {P : Str → Prop}, chkF P (xs ++ ys) ↔ chkF P xs ∧ chkF (addP P (xs.map KD.name)) ys
  | [], ys, P => by simp [chkF, addP_nil]
  | k :: xs, ys, P => by
    rw [List.cons_append, chk_cons, chk_cons, chk_app, addP_cons, List.map_cons]
    constructor
    · rintro ⟨h1, h2, h3, h4⟩; exact ⟨⟨h1, h2, h3⟩, h4⟩
    · rintro ⟨⟨h1, h2, h3⟩, h4⟩; exact ⟨h1, h2, h3, h4⟩
theorem chk_iff : ∀ {ks : List KD} {P : Str → Prop}, chkF P ks ↔ ∀ i (h : i < ks.length), ¬ addP P ((ks.take i).map KD.name) ks[i].name ∧ ∀ b, ks[i].base = some b → addP P ((ks.take i).map KD.name) b
  | [], P => ⟨fun _ i h => absurd h (Nat.not_lt_zero i), fun _ => trivial⟩
  | k :: ks, P => by
    rw [chk_cons, chk_iff]
    constructor
    · rintro ⟨h1, h2, h3⟩ i h
      cases i with
      | zero => simp only [List.take_zero, List.map_nil, addP_nil, List.getElem_cons_zero]; exact ⟨h1, h2⟩
      | succ i =>
        have := h3 i (by simpa using h)
        rw [addP_cons] at this
        simp only [List.take_succ_cons, List.map_cons, List.getElem_cons_succ]
        exact this
    · intro h
      have h0 := h 0 (by simp)
      simp only [List.take_zero, List.map_nil, addP_nil, List.getElem_cons_zero] at h0
      refine ⟨h0.1, h0.2, fun i hi => ?_⟩
      have := h (i + 1) (by simpa using hi)
      simp only [List.take_succ_cons, List.map_cons, List.getElem_cons_succ] at this
      rw [addP_cons]; exact this
theorem famGood_iff {ks : List KD} : FamGood ks ↔ ks.length ≤ 16 ∧ (∀ k ∈ ks, k.Good) ∧ chkF (fun _ => False) ks := by
  rw [chk_iff]
  constructor
  · intro g
    refine ⟨g.most, g.good, fun i h => ⟨fun z => ?_, fun b hb => .inr ?_⟩⟩
    · rcases z with z | z
      · exact z
      · exact kindAt_none.mp (g.once i h) z
    · refine Classical.byContradiction fun z => ?_
      exact g.base i h b hb (kindAt_none.mpr z)
  · rintro ⟨h1, h2, h3⟩
    refine ⟨h1, h2, fun i h => kindAt_none.mpr fun z => (h3 i h).1 (.inr z), fun i h b hb z => ?_⟩
    rcases (h3 i h).2 b hb with q | q
    · exact q
    · exact kindAt_none.mp z q
theorem chk_more {n : Str} : ∀ {ys : List KD} {P : Str → Prop}, chkF P ys → n ∉ ys.map KD.name → chkF (fun z => P z ∨ z = n) ys
  | [], _, _, _ => trivial
  | k :: ys, P, h, hn => by
    rw [chk_cons] at h ⊢
    obtain ⟨h1, h2, h3⟩ := h
    rw [List.map_cons, List.mem_cons] at hn
    refine ⟨fun z => ?_, fun b hb => .inl (h2 b hb), ?_⟩
    · rcases z with z | z
      · exact h1 z
      · exact hn (.inl z.symm)
    · have e : (fun z => (P z ∨ z = n) ∨ z = k.name) = fun z => (P z ∨ z = k.name) ∨ z = n := funext fun z => propext ⟨fun h => by rcases h with (h | h) | h <;> simp [h], fun h => by rcases h with (h | h) | h <;> simp [h]⟩
      rw [e]
      exact chk_more h3 fun z => hn (.inr z)
theorem FamGood.pre {ks : List KD} (n : Nat) (g : FamGood ks) : FamGood (ks.take n) := by
  obtain ⟨g1, g2, g3⟩ := famGood_iff.mp g
  refine famGood_iff.mpr ⟨by simp; omega, fun k hk => g2 k (List.mem_of_mem_take hk), ?_⟩
  have e : ks = ks.take n ++ ks.drop n := (List.take_append_drop n ks).symm
  rw [e, chk_app] at g3
  exact g3.1
theorem FamGood.ins {ks : List KD} {k : KD} {i : Nat} (g : FamGood ks) (hl : ks.length < 16) (hk : k.Good) (hn : k.name ∉ ks.map KD.name) (hb : ∀ b, k.base = some b → b ∈ (ks.take i).map KD.name) : FamGood (ks.take i ++ [k] ++ ks.drop i) := by
  obtain ⟨g1, g2, g3⟩ := famGood_iff.mp g
  have e : ks = ks.take i ++ ks.drop i := (List.take_append_drop i ks).symm
  refine famGood_iff.mpr ⟨by simp; omega, fun x hx => ?_, ?_⟩
  · simp only [List.append_assoc, List.cons_append, List.nil_append, List.mem_append, List.mem_cons] at hx
    rcases hx with h | h | h
    · exact g2 x (List.mem_of_mem_take h)
    · rw [h]; exact hk
    · exact g2 x (List.mem_of_mem_drop h)
  · have g4 := g3
    rw [e, chk_app] at g4
    rw [List.append_assoc, chk_app]
    refine ⟨g4.1, ?_⟩
    have n1 : k.name ∉ (ks.take i).map KD.name := fun z => hn (by rw [e, List.map_append]; exact List.mem_append_left _ z)
    have n2 : k.name ∉ (ks.drop i).map KD.name := fun z => hn (by rw [e, List.map_append]; exact List.mem_append_right _ z)
    refine ⟨fun z => ?_, fun b h => .inr (hb b h), chk_more g4.2 n2⟩
    rcases z with z | z
    · exact z
    · exact n1 z
end DL
namespace DL
open PySem L2
section
variable {s : S} {ks : List KD}
theorem rows_py (g : ∀ k ∈ ks, k.Good) : okE (.lst (ks.map KD.row)) = true ∧ depE (.lst (ks.map KD.row)) ≤ 64 := by
  constructor
  · show okEs (ks.map KD.row) = true
    refine okEs_all fun x hx => ?_
    obtain ⟨k, hk, rfl⟩ := List.mem_map.mp hx
    unfold KD.row okE
    exact row_ok (g k hk)
  · have : depEs (ks.map KD.row) ≤ 2 := depEs_all fun x hx => by
      obtain ⟨k, hk, rfl⟩ := List.mem_map.mp hx
      unfold KD.row depE
      have := @row_dep k
      omega
    unfold depE
    omega
theorem rows_mix : ∀ {ks ks' : List KD}, noMixs (ks.map KD.row) (ks'.map KD.row) = true
  | [], _ => rfl
  | _ :: _, [] => rfl
  | k :: ks, k' :: ks' => by
    show (noMix k.row k'.row && noMixs (ks.map KD.row) (ks'.map KD.row)) = true
    rw [row_mix, rows_mix]; rfl
theorem eqB_rows {ks' : List KD} (g : ∀ k ∈ ks, k.Good) (g' : ∀ k ∈ ks', k.Good) : eqB s (.lst (ks.map KD.row)) (.lst (ks'.map KD.row)) = some (decide (ks = ks')) := by
  obtain ⟨b, h1, h2⟩ := eqP_of (s := s) (x := .lst (ks.map KD.row)) (y := .lst (ks'.map KD.row)) rfl rfl (rows_py g).1 (rows_py g').1 (rows_py g).2 (rows_py g').2 (by unfold noMix; exact rows_mix)
  have e : b = decide (ks = ks') := by
    rw [Bool.eq_iff_iff, h2, decide_eq_true_eq]
    refine ⟨fun h => ?_, fun h => by rw [h]⟩
    have h := D.lst.inj h
    exact (List.map_inj_right (fun _ _ e => row_inj e)).mp h
  have e0 : eqS (.lst (ks.map KD.row)) (.lst (ks'.map KD.row)) = none := rfl
  unfold eqB
  rw [e0]
  simp only
  rw [h1, e]
theorem ne_rows {ks' : List KD} (g : ∀ k ∈ ks, k.Good) (g' : ∀ k ∈ ks', k.Good) : neD (.lst (ks.map KD.row)) (.lst (ks'.map KD.row)) s = some (.bl (!decide (ks = ks'))) := by
  unfold neD; rw [eqB_rows g g']; rfl
end
end DL
namespace DL
open PySem L2
section
variable {s : S} {Q : D → S → Prop} {E : Ex → S → Prop}
theorem ins_inj {k k' : KD} (h : k.ins = k'.ins) : k = k' := by
  refine row_inj ?_
  obtain ⟨nm, bs, ow, bg⟩ := k
  obtain ⟨nm', bs', ow', bg'⟩ := k'
  unfold KD.ins at h
  simp only [D.ins.injEq, List.cons.injEq, and_true, true_and] at h
  obtain ⟨h1, h2, h3, h4⟩ := h
  have e4 : begD bg = begD bg' := by
    cases bg with
    | none => cases bg' with
      | none => rfl
      | some p => simp [beginD] at h4
    | some p => cases bg' with
      | none => simp [beginD] at h4
      | some p' =>
        simp only [beginD, D.ins.injEq, List.cons.injEq, and_true, true_and] at h4
        simp only [begD, h4.1, h4.2]
  unfold KD.row
  simp only [h1, h2, h3, e4]
theorem isC_kind {k : KD} : isC s "Kind" k.ins = some () := rfl
theorem ty_kind {k : KD} : tyAny ownC s k.ins = some () := rfl
theorem pl_kind {k : KD} : plainD ownC k.ins = true := by
  obtain ⟨nm, bs, ow, bg⟩ := k
  cases bs <;> cases bg <;> rfl
theorem eqs_kinds {QB : Bool → S → Prop} : ∀ {ks ks' : List KD}, (∀ k ∈ ks, k.Good) → (∀ k ∈ ks', k.Good) → QB (decide (ks = ks')) s → eqsM ownC "Kind" f_Kind_eq_2 (ks.map KD.ins) (ks'.map KD.ins) s QB E
  | [], [], _, _, q => q
  | [], _ :: _, _, _, q => q
  | _ :: _, [], _, _, q => q
  | k :: ks, k' :: ks', g, g', q => by
    show (eq1M ownC "Kind" f_Kind_eq_2 k.ins k'.ins) s (fun b s' => (if b = true then eqsM ownC "Kind" f_Kind_eq_2 (ks.map KD.ins) (ks'.map KD.ins) else pureM false) s' QB E) E
    have t1 := g k List.mem_cons_self
    have t2 := g' k' List.mem_cons_self
    have r : k = k' → eqsM ownC "Kind" f_Kind_eq_2 (ks.map KD.ins) (ks'.map KD.ins) s QB E := fun e => by
      refine eqs_kinds (fun x hx => g x (List.mem_cons_of_mem _ hx)) (fun x hx => g' x (List.mem_cons_of_mem _ hx)) ?_
      have e2 : decide (k :: ks = k' :: ks') = decide (ks = ks') := by simp [e]
      rw [← e2]; exact q
    refine ⟨isC_kind, ty_kind, pl_kind, pl_kind, fun e => ?_, ?_⟩
    · exact r (ins_inj e)
    · simp -implicitDefEqProofs -failIfUnchanged only [word_snoc, DL.runs_D14, DL.runs_D15, DL.runs_D16, DL.runs_D17, DL.runs_D19, DL.runs_D20, DL.runs_D23, DL.runs_D24, DL.runs_D25, DL.runs_D26, DL.runs_D31, DL.runs_D34, DL.runs_D36, DL.runs_mir, DL.runs_sp_exec, DL.runs_sp_fam2, DL.runs_sp_lit, DL.runs_sp_terms, DL.runs_sp_putn, DL.runs_sp_refused, Nat.reduceSub, Nat.reduceAdd, Nat.reduceLT, true_and]
      refine Kind_eq_wp t1 t2 ?_
      by_cases e : k = k'
      · rw [decide_eq_true e]
        simp -implicitDefEqProofs -failIfUnchanged only [word_snoc, DL.runs_D14, DL.runs_D15, DL.runs_D16, DL.runs_D17, DL.runs_D19, DL.runs_D20, DL.runs_D23, DL.runs_D24, DL.runs_D25, DL.runs_D26, DL.runs_D31, DL.runs_D34, DL.runs_D36, DL.runs_mir, DL.runs_sp_exec, DL.runs_sp_fam2, DL.runs_sp_lit, DL.runs_sp_terms, DL.runs_sp_putn, DL.runs_sp_refused, Nat.reduceSub, Nat.reduceAdd, Nat.reduceLT, true_and, if_true]
        exact r e
      · rw [decide_eq_false e]
        simp -implicitDefEqProofs -failIfUnchanged only [word_snoc, DL.runs_D14, DL.runs_D15, DL.runs_D16, DL.runs_D17, DL.runs_D19, DL.runs_D20, DL.runs_D23, DL.runs_D24, DL.runs_D25, DL.runs_D26, DL.runs_D31, DL.runs_D34, DL.runs_D36, DL.runs_mir, DL.runs_sp_exec, DL.runs_sp_fam2, DL.runs_sp_lit, DL.runs_sp_terms, DL.runs_sp_putn, DL.runs_sp_refused, Nat.reduceSub, Nat.reduceAdd, Nat.reduceLT, true_and]
        have e2 : decide (k :: ks = k' :: ks') = false := decide_eq_false fun h => e (List.cons.inj h).1
        rw [e2] at q
        exact q
theorem Family_eq_wp {m m' : MkD} {ks ks' : List KD} (gm : m.Good) (gm' : m'.Good) (g : ∀ k ∈ ks, k.Good) (g' : ∀ k ∈ ks', k.Good) (q : Q (.bl (decide (m = m') && decide (ks = ks'))) s) : d_Family_eq [famD m ks, famD m' ks'] s Q (fun _ _ => False) := by
  unfold d_Family_eq b_Family_eq famD
  have h1 : isiD ownC [.ins "Family" ["maker", "kinds"] [m'.ins, kindsD ks'], .cls "Family"] s = some (.bl true) := by
    rw [isi_ins_cls (by decide) (by decide)]; rfl
  have h2 : isC s "Maker" m.ins = some () := rfl
  have h3 : tyAny ownC s m'.ins = some () := rfl
  simp -implicitDefEqProofs -failIfUnchanged only [word_snoc, DL.runs_D14, DL.runs_D15, DL.runs_D16, DL.runs_D17, DL.runs_D19, DL.runs_D20, DL.runs_D23, DL.runs_D24, DL.runs_D25, DL.runs_D26, DL.runs_D31, DL.runs_D34, DL.runs_D36, DL.runs_mir, DL.runs_sp_exec, DL.runs_sp_fam2, DL.runs_sp_lit, DL.runs_sp_terms, DL.runs_sp_putn, DL.runs_sp_refused, Nat.reduceSub, Nat.reduceAdd, Nat.reduceLT, true_and, h1, h2, h3]
  refine Maker_eq_wp gm gm' ?_
  by_cases e : m = m'
  · rw [decide_eq_true e] at q ⊢
    unfold kindsD
    simp -implicitDefEqProofs -failIfUnchanged only [word_snoc, DL.runs_D14, DL.runs_D15, DL.runs_D16, DL.runs_D17, DL.runs_D19, DL.runs_D20, DL.runs_D23, DL.runs_D24, DL.runs_D25, DL.runs_D26, DL.runs_D31, DL.runs_D34, DL.runs_D36, DL.runs_mir, DL.runs_sp_exec, DL.runs_sp_fam2, DL.runs_sp_lit, DL.runs_sp_terms, DL.runs_sp_putn, DL.runs_sp_refused, Nat.reduceSub, Nat.reduceAdd, Nat.reduceLT, true_and, Bool.xor_false]
    refine eqs_kinds g g' ?_
    simp -implicitDefEqProofs -failIfUnchanged only [word_snoc, DL.runs_D14, DL.runs_D15, DL.runs_D16, DL.runs_D17, DL.runs_D19, DL.runs_D20, DL.runs_D23, DL.runs_D24, DL.runs_D25, DL.runs_D26, DL.runs_D31, DL.runs_D34, DL.runs_D36, DL.runs_mir, DL.runs_sp_exec, DL.runs_sp_fam2, DL.runs_sp_lit, DL.runs_sp_terms, DL.runs_sp_putn, DL.runs_sp_refused, Nat.reduceSub, Nat.reduceAdd, Nat.reduceLT, true_and, Bool.xor_false]
    exact q
  · rw [decide_eq_false e] at q ⊢
    simp -implicitDefEqProofs -failIfUnchanged only [word_snoc, DL.runs_D14, DL.runs_D15, DL.runs_D16, DL.runs_D17, DL.runs_D19, DL.runs_D20, DL.runs_D23, DL.runs_D24, DL.runs_D25, DL.runs_D26, DL.runs_D31, DL.runs_D34, DL.runs_D36, DL.runs_mir, DL.runs_sp_exec, DL.runs_sp_fam2, DL.runs_sp_lit, DL.runs_sp_terms, DL.runs_sp_putn, DL.runs_sp_refused, Nat.reduceSub, Nat.reduceAdd, Nat.reduceLT, true_and, Bool.xor_false]
    exact q
end
end DL
namespace DL
open PySem L2
section
variable {s : S} {Q : D → S → Prop} {E : Ex → S → Prop} {m : MkD} {r : Addr}
def MkD.set (m : MkD) : Nat → Str → MkD
  | 0, c => { m with place := c }
  | 1, c => { m with key := c }
  | 2, c => { m with store := c }
  | 3, c => { m with stopped := c }
  | 4, c => { m with fits := c }
  | 5, c => { m with misfit := c }
  | 6, c => { m with compare := c }
  | 7, c => { m with unlike := c }
  | 8, c => { m with unready := c }
  | _, c => { m with again := c }
theorem mk_set_list {i : Nat} (h : i < 10) {c : Str} : (m.set i c).list = m.list.set i c := by
  match i, h with
  | 0, _ => rfl
  | 1, _ => rfl
  | 2, _ => rfl
  | 3, _ => rfl
  | 4, _ => rfl
  | 5, _ => rfl
  | 6, _ => rfl
  | 7, _ => rfl
  | 8, _ => rfl
  | 9, _ => rfl
structure ChOk (p : Str × Str) : Prop where
  ex : ∃ chs : List Str, t_CHOICES.lookup p.1 = some (.tup (chs.map .str)) ∧ p.2 ∈ chs ∧ p.2.length ≤ sizeLine
theorem Chs.all : ∀ {ps : List (Str × Str)}, Chs ps → ∀ p ∈ ps, ChOk p
  | _, .nil, _, h => by cases h
  | _, .cons chs h1 h2 h3 h, p, hp => by
    rcases List.mem_cons.mp hp with rfl | hp
    · exact ⟨chs, h1, h2, h3⟩
    · exact h.all p hp
theorem Chs.of : ∀ {ps : List (Str × Str)}, (∀ p ∈ ps, ChOk p) → Chs ps
  | [], _ => .nil
  | p :: ps, h => by
    obtain ⟨chs, h1, h2, h3⟩ := h p List.mem_cons_self
    obtain ⟨x, y⟩ := p
    exact .cons chs h1 h2 h3 (Chs.of fun q hq => h q (List.mem_cons_of_mem _ hq))
theorem rcs_at {i : Nat} (h : i < 10) : RcOk (ruleL[i]'h, chL[i]'h) := by
  refine rcs_ok _ ?_
  unfold rcs
  rw [List.mem_iff_getElem]
  exact ⟨i, by rw [List.length_zip]; exact h, List.getElem_zip⟩
theorem set_good (g : m.Good) {i : Nat} (h : i < 10) {c : Str} (hc : c ∈ chL[i]'h) : (m.set i c).Good := by
  refine Chs.of fun p hp => ?_
  rw [mk_set_list h] at hp
  obtain ⟨j, hj, rfl⟩ := List.getElem_of_mem hp
  have hj' : j < 10 := by simpa [ruleL, MkD.list] using hj
  rw [List.getElem_zip]
  by_cases e : i = j
  · subst e
    have k := rcs_at h
    rw [List.getElem_set_self]
    exact ⟨_, k.at_, hc, k.short _ hc⟩
  · rw [List.getElem_set_ne e]
    refine g.all _ ?_
    rw [List.mem_iff_getElem]
    exact ⟨j, by simpa [ruleL, MkD.list] using hj', by rw [List.getElem_zip]⟩
theorem strKV_zip : strKV (ruleL.zip m.list) = (ruleL.map Sum.inr).zip (m.list.map .str) := rfl
theorem ruleL_nd : ruleL.Nodup := by decide +kernel
theorem eqB_T {as bs : List Str} (ha : ∀ c ∈ as, PyData.strOk c = true) (hb : ∀ c ∈ bs, PyData.strOk c = true) : eqB s (.tup (as.map .str)) (.tup (bs.map .str)) = some (decide (as = bs)) := by
  have h : (eqB s (.tup (as.map .str)) (.tup (bs.map .str))).map D.bl = some (.bl (decide (as = bs))) := eq_strs ha hb
  obtain ⟨b, h1, h2⟩ := Option.map_eq_some_iff.mp h
  rw [h1]
  exact congrArg some (D.bl.inj h2)
theorem neD_of {x y : D} {b : Bool} (h : eqB s x y = some b) : neD x y s = some (.bl (!b)) := by unfold neD; rw [h]; rfl
theorem list_ok (g : m.Good) : ∀ c ∈ m.list, PyData.strOk c = true := okEs_strs.mp (MkD.ok g)
end
end DL
namespace DL
open PySem L2
section
variable {s : S} {Q : D → S → Prop} {E : Ex → S → Prop} {m m' : MkD} {ks : List KD}
abbrev RM := _root_.Fin 10 × Str
def RM.ok (p : RM) : Prop := p.2 ∈ chL[p.1.1]'p.1.2
def RM.rule (p : RM) : Str := ruleL[p.1.1]'p.1.2
def RM.d (p : RM) : D := .tup [.str "rule", .str p.rule, .str p.2]
def RM.on (m : MkD) (p : RM) : MkD := m.set p.1.1 p.2
theorem RM.good {p : RM} (h : p.ok) (g : m.Good) : (RM.on m p).Good := set_good g p.1.2 h
def RM.all (m : MkD) (ps : List RM) : MkD := ps.foldl RM.on m
end
end DL
namespace DL
open PySem L2
section
variable {s : S} {Q : D → S → Prop} {E : Ex → S → Prop}
theorem x_iterEL {as : Env → M Ex (List D)} {ρ : Env} {s : S} {QI : Src → S → Prop} {E : Ex → S → Prop} : iterEL as ρ s QI E = as ρ s (fun ds s1 => ∃ v, ((one ds).bind fun d => (lstOf s1 d).bind fun xs => if xs.length ≤ sizeLine then some (⟨enumD xs, srcP d xs⟩ : Src) else none) = some v ∧ QI v s1) E := rfl
theorem slD_from {z w : Str} {n : Int} (hl : z.length ≤ 1000) (e : cutS z (some n) none = w) : slD (.str z) (some n) none = some (.str w) := by rw [sl_str hl, e]
theorem slD_to {z w : Str} {n : Int} (hl : z.length ≤ 1000) (e : cutS z none (some n) = w) : slD (.str z) none (some n) = some (.str w) := by rw [sl_str hl, e]
theorem read_rule_wp {r c : Str} {chs : List Str} (h1 : t_CHOICES.lookup r = some (.tup (chs.map .str))) (h2 : c ∈ chs) (hr : r.length ≤ 10) (hc : c.length ≤ 10) (q : Q (.str c) s) : d_read_rule [.str r, .str (r ++ (" " : Str) ++ c)] s Q E := by
  unfold d_read_rule b_read_rule
  have l1 : ((" " : Str)).length = 1 := rfl
  have e1 : addD (.str r) (.str " ") s = some (.str (r ++ (" " : Str))) := add_str (le_sz (by omega))
  have e2 : startsD (.str (r ++ (" " : Str) ++ c)) (.str (r ++ (" " : Str))) s = some (.bl true) := congrArg (fun b => some (D.bl b)) (st_app _ _)
  have e3 : lenD [.str (r ++ (" " : Str))] s = some (.int ((r ++ (" " : Str)).length : Nat)) := len_str (le_sz (by rw [len_app]; omega))
  have e4 : slD (.str (r ++ (" " : Str) ++ c)) (some ((r ++ (" " : Str)).length : Nat)) none = some (.str c) := slD_from (by rw [len_app, len_app]; omega) (cut_from _ _)
  simp -implicitDefEqProofs -failIfUnchanged only [word_snoc, DL.runs_D14, DL.runs_D15, DL.runs_D16, DL.runs_D17, DL.runs_D19, DL.runs_D20, DL.runs_D23, DL.runs_D24, DL.runs_D25, DL.runs_D26, DL.runs_D31, DL.runs_D34, DL.runs_D36, DL.runs_mir, DL.runs_sp_exec, DL.runs_sp_fam2, DL.runs_sp_lit, DL.runs_sp_terms, DL.runs_sp_putn, DL.runs_sp_refused, x_iterEL, Nat.reduceSub, Nat.reduceAdd, Nat.reduceLT, true_and, e1, e2, e3, e4]
  refine is_choice_wp h1 (decide_eq_true (le_sz (by omega))) ?_
  simp -implicitDefEqProofs -failIfUnchanged only [word_snoc, DL.runs_D14, DL.runs_D15, DL.runs_D16, DL.runs_D17, DL.runs_D19, DL.runs_D20, DL.runs_D23, DL.runs_D24, DL.runs_D25, DL.runs_D26, DL.runs_D31, DL.runs_D34, DL.runs_D36, DL.runs_mir, DL.runs_sp_exec, DL.runs_sp_fam2, DL.runs_sp_lit, DL.runs_sp_terms, DL.runs_sp_putn, DL.runs_sp_refused, x_iterEL, Nat.reduceSub, Nat.reduceAdd, Nat.reduceLT, true_and, isChD, h2, decide_true]
  exact q
theorem name_no {z : Str} (h : isName z = true) {c : Nat} (hc : c ∉ letters) : c ∉ z.cps.toList := fun hm => hc ((isName_iff.mp h).2 c hm)
theorem read_kind_wp {k : KD} (g : k.Good) (q : Q (.tup [.str k.name, oStr k.base, .bl k.own, .non]) s) : d_read_kind [.str (line1 k)] s Q E := by
  obtain ⟨nm, bs, ow, bg⟩ := k
  have hn : nm.length ≤ 8 := nlen g.name
  have hb : ∀ b, bs = some b → b.length ≤ 8 := fun b e => nlen (g.base b e)
  have hN : (nm ++ baseS bs).length ≤ 30 := by
    cases bs with
    | none => rw [len_app]; show nm.length + 0 ≤ 30; omega
    | some b =>
      have := hb b rfl
      show (nm ++ (("(" : Str) ++ b ++ (")" : Str))).length ≤ 30
      rw [len_app, len_app, len_app]
      have l2 : (("(" : Str)).length = 1 := rfl
      have l3 : ((")" : Str)).length = 1 := rfl
      omega
  have l5 : (("kind " : Str)).length = 5 := rfl
  have l4 : ((" own" : Str)).length = 4 := rfl
  have l0 : (("" : Str)).length = 0 := rfl
  have eL : line1 ⟨nm, bs, ow, bg⟩ = ("kind " : Str) ++ ((nm ++ baseS bs) ++ (if ow = true then (" own" : Str) else "")) := by
    unfold line1
    simp only [sapp]
  have hO : ((nm ++ baseS bs) ++ (if ow = true then (" own" : Str) else "")).length ≤ 40 := by
    rw [len_app]
    cases ow <;> simp only [if_true, Bool.false_eq_true, if_false, l4, l0] <;> omega
  unfold d_read_kind b_read_kind
  rw [eL]
  have e1 : startsD (.str (("kind " : Str) ++ ((nm ++ baseS bs) ++ (if ow = true then (" own" : Str) else "")))) (.str "kind ") s = some (.bl true) := congrArg (fun b => some (D.bl b)) (st_app _ _)
  have e2 : slD (.str (("kind " : Str) ++ ((nm ++ baseS bs) ++ (if ow = true then (" own" : Str) else "")))) (some 5) none = some (.str ((nm ++ baseS bs) ++ (if ow = true then (" own" : Str) else ""))) := slD_from (by rw [len_app]; omega) (cut_from _ _)
  have sp : (32 : Nat) ∉ (nm ++ baseS bs).cps.toList := by
    have a1 : (32 : Nat) ∉ nm.cps.toList := name_no g.name (by decide +kernel)
    rw [str_app]
    cases bs with
    | none => exact fun h => by rcases List.mem_append.mp h with h | h; exact a1 h; cases h
    | some b =>
      have a2 : (32 : Nat) ∉ b.cps.toList := name_no (g.base b rfl) (by decide +kernel)
      intro h
      rcases List.mem_append.mp h with h | h
      · exact a1 h
      · have h : (32 : Nat) ∈ (("(" : Str) ++ b ++ (")" : Str)).cps.toList := h
        rw [str_app, str_app] at h
        rcases List.mem_append.mp h with h | h
        · rcases List.mem_append.mp h with h | h
          · exact absurd h (by decide)
          · exact a2 h
        · exact absurd h (by decide)
  have e3 : endsD (.str ((nm ++ baseS bs) ++ (if ow = true then (" own" : Str) else ""))) (.str " own") s = some (.bl ow) := by
    refine congrArg (fun b => some (D.bl b)) ?_
    cases ow with
    | true => exact en_app _ _
    | false =>
      refine en_no (c := 32) (by decide) ?_
      rw [str_app]
      intro h
      rcases List.mem_append.mp h with h | h
      · exact sp h
      · cases h
  simp -implicitDefEqProofs -failIfUnchanged only [word_snoc, DL.runs_D14, DL.runs_D15, DL.runs_D16, DL.runs_D17, DL.runs_D19, DL.runs_D20, DL.runs_D23, DL.runs_D24, DL.runs_D25, DL.runs_D26, DL.runs_D31, DL.runs_D34, DL.runs_D36, DL.runs_mir, DL.runs_sp_exec, DL.runs_sp_fam2, DL.runs_sp_lit, DL.runs_sp_terms, DL.runs_sp_putn, DL.runs_sp_refused, x_iterEL, Nat.reduceSub, Nat.reduceAdd, Nat.reduceLT, true_and, e1, e2, e3]
  refine cutC (fun ρ' s' => s' = s ∧ ∃ o0, ρ' = [o0, some (.str (nm ++ baseS bs)), some (.bl ow), none, none, none]) ?_ ?_
  · simp -implicitDefEqProofs -failIfUnchanged only [word_snoc, DL.runs_D14, DL.runs_D15, DL.runs_D16, DL.runs_D17, DL.runs_D19, DL.runs_D20, DL.runs_D23, DL.runs_D24, DL.runs_D25, DL.runs_D26, DL.runs_D31, DL.runs_D34, DL.runs_D36, DL.runs_mir, DL.runs_sp_exec, DL.runs_sp_fam2, DL.runs_sp_lit, DL.runs_sp_terms, DL.runs_sp_putn, DL.runs_sp_refused, x_iterEL, Nat.reduceSub, Nat.reduceAdd, Nat.reduceLT, true_and]
    refine selB_of (fun h => ?_) fun h => ?_
    · rw [h, if_pos rfl]
      have e4 : slD (.str ((nm ++ baseS bs) ++ (" own" : Str))) none (some (-4)) = some (.str (nm ++ baseS bs)) := slD_to (by rw [len_app]; omega) (cut_to (n := 4) l4 (by decide))
      simp -implicitDefEqProofs -failIfUnchanged only [word_snoc, DL.runs_D14, DL.runs_D15, DL.runs_D16, DL.runs_D17, DL.runs_D19, DL.runs_D20, DL.runs_D23, DL.runs_D24, DL.runs_D25, DL.runs_D26, DL.runs_D31, DL.runs_D34, DL.runs_D36, DL.runs_mir, DL.runs_sp_exec, DL.runs_sp_fam2, DL.runs_sp_lit, DL.runs_sp_terms, DL.runs_sp_putn, DL.runs_sp_refused, x_iterEL, Nat.reduceSub, Nat.reduceAdd, Nat.reduceLT, true_and, e4]
      exact ⟨_, rfl⟩
    · rw [h, if_neg (by decide), sapp_nil]
      exact ⟨_, rfl⟩
  · rintro ρ' s' ⟨rfl, o0, rfl⟩
    cases bs with
    | none =>
      have eN : nm ++ baseS none = nm := sapp_nil _
      rw [eN]
      have e5 : partD (.str nm) (.str "(") s' = some (.tup [.str nm, .str "", .str ""]) := by
        show (if (("(" : Str).length == 0) = false ∧ nm.length ≤ sizeLine then some (D.tup [.str (Txt.partition nm "(").1, .str (Txt.partition nm "(").2.1, .str (Txt.partition nm "(").2.2]) else none) = _
        rw [if_pos ⟨rfl, le_sz (by omega)⟩, TL.partition_none (s := 40) (S := []) rfl (name_no g.name (by decide +kernel))]
        rfl
      simp -implicitDefEqProofs -failIfUnchanged only [word_snoc, DL.runs_D14, DL.runs_D15, DL.runs_D16, DL.runs_D17, DL.runs_D19, DL.runs_D20, DL.runs_D23, DL.runs_D24, DL.runs_D25, DL.runs_D26, DL.runs_D31, DL.runs_D34, DL.runs_D36, DL.runs_mir, DL.runs_sp_exec, DL.runs_sp_fam2, DL.runs_sp_lit, DL.runs_sp_terms, DL.runs_sp_putn, DL.runs_sp_refused, x_iterEL, Nat.reduceSub, Nat.reduceAdd, Nat.reduceLT, true_and, e5, decide_true, eq_self]
      refine is_name_wp (decide_eq_true (le_sz (by omega))) ?_
      have en : isNameD (.str nm) = true := g.name
      simp -implicitDefEqProofs -failIfUnchanged only [word_snoc, DL.runs_D14, DL.runs_D15, DL.runs_D16, DL.runs_D17, DL.runs_D19, DL.runs_D20, DL.runs_D23, DL.runs_D24, DL.runs_D25, DL.runs_D26, DL.runs_D31, DL.runs_D34, DL.runs_D36, DL.runs_mir, DL.runs_sp_exec, DL.runs_sp_fam2, DL.runs_sp_lit, DL.runs_sp_terms, DL.runs_sp_putn, DL.runs_sp_refused, x_iterEL, Nat.reduceSub, Nat.reduceAdd, Nat.reduceLT, true_and, en]
      exact q
    | some b =>
      have hb8 := hb b rfl
      have l2 : (("(" : Str)).length = 1 := rfl
      have l3 : ((")" : Str)).length = 1 := rfl
      have eN : nm ++ baseS (some b) = nm ++ ("(" : Str) ++ (b ++ (")" : Str)) := by show nm ++ (("(" : Str) ++ b ++ (")" : Str)) = _; simp only [sapp]
      rw [eN]
      have e5 : partD (.str (nm ++ ("(" : Str) ++ (b ++ (")" : Str)))) (.str "(") s' = some (.tup [.str nm, .str "(", .str (b ++ (")" : Str))]) := by
        show (if (("(" : Str).length == 0) = false ∧ (nm ++ ("(" : Str) ++ (b ++ (")" : Str))).length ≤ sizeLine then some (D.tup [.str (Txt.partition (nm ++ ("(" : Str) ++ (b ++ (")" : Str))) "(").1, .str (Txt.partition (nm ++ ("(" : Str) ++ (b ++ (")" : Str))) "(").2.1, .str (Txt.partition (nm ++ ("(" : Str) ++ (b ++ (")" : Str))) "(").2.2]) else none) = _
        rw [if_pos ⟨rfl, le_sz (by rw [len_app, len_app, len_app]; omega)⟩, TL.partition_app (s := 40) (S := []) rfl (name_no g.name (by decide +kernel))]
      have e6 : endsD (.str (b ++ (")" : Str))) (.str ")") s' = some (.bl true) := congrArg (fun b => some (D.bl b)) (en_app _ _)
      have e7 : slD (.str (b ++ (")" : Str))) none (some (-1)) = some (.str b) := slD_to (by rw [len_app]; omega) (cut_to (n := 1) l3 (by decide))
      have e8 : decide (("(" : Str) = "") = false := by decide +kernel
      simp -implicitDefEqProofs -failIfUnchanged only [word_snoc, DL.runs_D14, DL.runs_D15, DL.runs_D16, DL.runs_D17, DL.runs_D19, DL.runs_D20, DL.runs_D23, DL.runs_D24, DL.runs_D25, DL.runs_D26, DL.runs_D31, DL.runs_D34, DL.runs_D36, DL.runs_mir, DL.runs_sp_exec, DL.runs_sp_fam2, DL.runs_sp_lit, DL.runs_sp_terms, DL.runs_sp_putn, DL.runs_sp_refused, x_iterEL, Nat.reduceSub, Nat.reduceAdd, Nat.reduceLT, true_and, e5, e8, e6, e7]
      refine is_name_wp (decide_eq_true (le_sz (by omega))) ?_
      have en : isNameD (.str nm) = true := g.name
      simp -implicitDefEqProofs -failIfUnchanged only [word_snoc, DL.runs_D14, DL.runs_D15, DL.runs_D16, DL.runs_D17, DL.runs_D19, DL.runs_D20, DL.runs_D23, DL.runs_D24, DL.runs_D25, DL.runs_D26, DL.runs_D31, DL.runs_D34, DL.runs_D36, DL.runs_mir, DL.runs_sp_exec, DL.runs_sp_fam2, DL.runs_sp_lit, DL.runs_sp_terms, DL.runs_sp_putn, DL.runs_sp_refused, x_iterEL, Nat.reduceSub, Nat.reduceAdd, Nat.reduceLT, true_and, en]
      refine is_name_wp (decide_eq_true (le_sz (by omega))) ?_
      have en2 : isNameD (.str b) = true := g.base b rfl
      simp -implicitDefEqProofs -failIfUnchanged only [word_snoc, DL.runs_D14, DL.runs_D15, DL.runs_D16, DL.runs_D17, DL.runs_D19, DL.runs_D20, DL.runs_D23, DL.runs_D24, DL.runs_D25, DL.runs_D26, DL.runs_D31, DL.runs_D34, DL.runs_D36, DL.runs_mir, DL.runs_sp_exec, DL.runs_sp_fam2, DL.runs_sp_lit, DL.runs_sp_terms, DL.runs_sp_putn, DL.runs_sp_refused, x_iterEL, Nat.reduceSub, Nat.reduceAdd, Nat.reduceLT, true_and, en2]
      exact q
def begs6 : List (Str × Bool) := [("first", false), ("first", true), ("last", false), ("last", true), ("alone", false), ("alone", true)]
theorem begs_in {p : Str × Bool} (h : p.1 ∈ upsL) : p ∈ begs6 := by
  obtain ⟨u, b⟩ := p
  simp only [upsL, List.mem_cons, List.not_mem_nil, or_false] at h
  rcases h with h | h | h <;> (have h : u = _ := h; subst h; cases b <;> simp [begs6])
theorem beg_dec : ∀ p ∈ begs6, ∀ u ∈ upsL, decide (line2 p = ("begin " : Str) ++ u) = decide (p = (u, false)) ∧ decide (line2 p = ("begin " : Str) ++ u ++ (" guarded" : Str)) = decide (p = (u, true)) := by decide +kernel
theorem beg_not : ∀ p ∈ begs6, Txt.startswith (line2 p) "kind " = false := by decide +kernel
theorem read_begin_wp {p : Str × Bool} (h : p.1 ∈ upsL) (q : Q (begD (some p)) s) : d_read_begin [.str (line2 p)] s Q E := by
  unfold d_read_begin b_read_begin
  have hs : ((tupOf c_UPS).bind fun xs => if xs.length ≤ sizeLine then some (⟨xs, fun _ => True⟩ : Src) else none) = some ⟨upsL.map .str, fun _ => True⟩ := by
    show (if (upsL.map D.str).length ≤ sizeLine then some (⟨upsL.map .str, fun _ => True⟩ : Src) else none) = _
    rw [if_pos (by decide)]
  simp -implicitDefEqProofs -failIfUnchanged only [word_snoc, DL.runs_D14, DL.runs_D15, DL.runs_D16, DL.runs_D17, DL.runs_D19, DL.runs_D20, DL.runs_D23, DL.runs_D24, DL.runs_D25, DL.runs_D26, DL.runs_D31, DL.runs_D34, DL.runs_D36, DL.runs_mir, DL.runs_sp_exec, DL.runs_sp_fam2, DL.runs_sp_lit, DL.runs_sp_terms, DL.runs_sp_putn, DL.runs_sp_refused, x_iterEL, Nat.reduceSub, Nat.reduceAdd, Nat.reduceLT, true_and, hs]
  have hp := begs_in h
  refine loop_test (fun u : Str => D.str u) (fun ρ => ∃ o, ρ = [some (.str (line2 p)), o]) (fun u => !decide (p.1 = u)) (fun u => .tup [.str u, .bl p.2]) _ _ trivial ⟨_, rfl⟩ (fun u hu ρ hρ => ?_) (fun ha => ?_) fun u hu => ?_
  · obtain ⟨o, rfl⟩ := hρ
    refine ⟨_, rfl, ?_⟩
    have hu5 := ulen u hu
    have l1 : (("begin " : Str)).length = 6 := rfl
    have l2 : ((" guarded" : Str)).length = 8 := rfl
    have a1 : addD (.str "begin ") (.str u) s = some (.str (("begin " : Str) ++ u)) := add_str (le_sz (by omega))
    have a2 : addD (.str (("begin " : Str) ++ u)) (.str " guarded") s = some (.str (("begin " : Str) ++ u ++ (" guarded" : Str))) := add_str (le_sz (by rw [len_app]; omega))
    obtain ⟨d1, d2⟩ := beg_dec p hp u hu
    simp -implicitDefEqProofs -failIfUnchanged only [word_snoc, DL.runs_D14, DL.runs_D15, DL.runs_D16, DL.runs_D17, DL.runs_D19, DL.runs_D20, DL.runs_D23, DL.runs_D24, DL.runs_D25, DL.runs_D26, DL.runs_D31, DL.runs_D34, DL.runs_D36, DL.runs_mir, DL.runs_sp_exec, DL.runs_sp_fam2, DL.runs_sp_lit, DL.runs_sp_terms, DL.runs_sp_putn, DL.runs_sp_refused, x_iterEL, Nat.reduceSub, Nat.reduceAdd, Nat.reduceLT, true_and, a1, a2, d1, d2]
    refine selB_of (fun e => ?_) fun e => ?_
    · have e : p = (u, false) := of_decide_eq_true e
      rw [e]
      exact .inr ⟨by simp, rfl⟩
    · refine selB_of (fun e2 => ?_) fun e2 => ?_
      · have e2 : p = (u, true) := of_decide_eq_true e2
        rw [e2]
        exact .inr ⟨by simp, rfl⟩
      · refine .inl ⟨?_, _, rfl, _, rfl⟩
        have e := of_decide_eq_false e
        have e2 := of_decide_eq_false e2
        have : p.1 ≠ u := fun hh => by
          obtain ⟨x, b⟩ := p
          cases b with
          | true => exact e2 (by rw [← hh])
          | false => exact e (by rw [← hh])
        simpa using this
  · have := ha p.1 h
    simp at this
  · have e := List.find?_some hu
    have e : p.1 = u := by simpa using e
    simp -implicitDefEqProofs -failIfUnchanged only [word_snoc, DL.runs_D14, DL.runs_D15, DL.runs_D16, DL.runs_D17, DL.runs_D19, DL.runs_D20, DL.runs_D23, DL.runs_D24, DL.runs_D25, DL.runs_D26, DL.runs_D31, DL.runs_D34, DL.runs_D36, DL.runs_mir, DL.runs_sp_exec, DL.runs_sp_fam2, DL.runs_sp_lit, DL.runs_sp_terms, DL.runs_sp_putn, DL.runs_sp_refused, x_iterEL, Nat.reduceSub, Nat.reduceAdd, Nat.reduceLT, true_and]
    rw [← e]
    exact q
theorem read_kind_no {p : Str × Bool} (h : p.1 ∈ upsL) (q : Q .non s) : d_read_kind [.str (line2 p)] s Q E := by
  unfold d_read_kind b_read_kind
  have e1 : startsD (.str (line2 p)) (.str "kind ") s = some (.bl false) := congrArg (fun b => some (D.bl b)) (beg_not p (begs_in h))
  simp -implicitDefEqProofs -failIfUnchanged only [word_snoc, DL.runs_D14, DL.runs_D15, DL.runs_D16, DL.runs_D17, DL.runs_D19, DL.runs_D20, DL.runs_D23, DL.runs_D24, DL.runs_D25, DL.runs_D26, DL.runs_D31, DL.runs_D34, DL.runs_D36, DL.runs_mir, DL.runs_sp_exec, DL.runs_sp_fam2, DL.runs_sp_lit, DL.runs_sp_terms, DL.runs_sp_putn, DL.runs_sp_refused, x_iterEL, Nat.reduceSub, Nat.reduceAdd, Nat.reduceLT, true_and, e1]
  exact q
def enS : Int → List Str → List D
  | _, [] => []
  | i, z :: r => .tup [.int i, .str z] :: enS (i + 1) r
theorem enS_eq : ∀ (L : List Str) (i : Int), ((intsD i L.length).zip (L.map .str)).map (fun q => D.tup [q.1, q.2]) = enS i L
  | [], i => rfl
  | z :: r, i => by
    rw [List.length_cons, ints_succ, List.map_cons, List.zip_cons_cons, List.map_cons, enS_eq r (i + 1)]; rfl
theorem enum_strs {L : List Str} : enumD (L.map .str) = enS 0 L := by
  unfold enumD
  rw [List.length_map]; exact enS_eq L 0
theorem flat_nil {k2 : List KD} (h : k2.flatMap linesK = []) : k2 = [] := by
  cases k2 with
  | nil => rfl
  | cons k k2 => exact absurd h (by rw [List.flatMap_cons]; simp [linesK])
def row0 (k : KD) : D := .tup [.str k.name, oStr k.base, .bl k.own, .non]
theorem ix_lastD {xs : List D} {y : D} {a : Addr} (h : s.map a = some (.lst (xs ++ [y]))) : ixD (.ref a) (.int (-1)) s = some y := by
  rw [ix_ref h]
  unfold atI ixN
  rw [if_neg (by decide), if_pos (by simp; omega)]
  have e : ((-1 : Int) + ((xs ++ [y]).length : Nat)).toNat = xs.length := by simp; omega
  rw [Option.bind_some, e, List.getElem?_append_right (Nat.le_refl _), Nat.sub_self]; rfl
theorem ixN_last {n : Nat} : ixN (n + 1) (-1) = some n := by
  unfold ixN
  rw [if_neg (by decide), if_pos (by omega)]
  have e : ((-1 : Int) + ((n + 1 : Nat) : Int)).toNat = n := by omega
  rw [e]
theorem read_rows_wp {m : MkD} {ks : List KD} (g : FamGood ks) (q : Q (.lst (ks.map KD.row)) s) : d_read_rows [.lst ((linesF m ks).map .str)] s Q E := by
  unfold d_read_rows b_read_rows
  have hm := g.most
  have hl : ((linesF m ks).map D.str).length ≤ sizeLine := by
    have h1 := flat_len ks
    have h3 : (linesM m).length = 10 := rfl
    unfold linesF
    rw [List.length_map, List.length_append]
    exact le_sz (by omega)
  simp -implicitDefEqProofs -failIfUnchanged only [word_snoc, DL.runs_D14, DL.runs_D15, DL.runs_D16, DL.runs_D17, DL.runs_D19, DL.runs_D20, DL.runs_D23, DL.runs_D24, DL.runs_D25, DL.runs_D26, DL.runs_D31, DL.runs_D34, DL.runs_D36, DL.runs_mir, DL.runs_sp_exec, DL.runs_sp_fam2, DL.runs_sp_lit, DL.runs_sp_terms, DL.runs_sp_putn, DL.runs_sp_refused, x_iterEL, Nat.reduceSub, Nat.reduceAdd, Nat.reduceLT, true_and]
  intro a ha
  have he : (if ((linesF m ks).map D.str).length ≤ sizeLine then some (⟨enumD ((linesF m ks).map D.str), fun _ => True⟩ : Src) else none) = some ⟨enS 0 (linesF m ks), fun _ => True⟩ := by rw [if_pos hl, enum_strs]
  simp -implicitDefEqProofs -failIfUnchanged only [word_snoc, DL.runs_D14, DL.runs_D15, DL.runs_D16, DL.runs_D17, DL.runs_D19, DL.runs_D20, DL.runs_D23, DL.runs_D24, DL.runs_D25, DL.runs_D26, DL.runs_D31, DL.runs_D34, DL.runs_D36, DL.runs_mir, DL.runs_sp_exec, DL.runs_sp_fam2, DL.runs_sp_lit, DL.runs_sp_terms, DL.runs_sp_putn, DL.runs_sp_refused, x_iterEL, Nat.reduceSub, Nat.reduceAdd, Nat.reduceLT, true_and, he]
  have h10 : ∀ s' : S, lenD [cc_Maker_RULES] s' = some (.int 10) := fun _ => rfl
  refine loop_inv (fun ds ρ s' => ∃ o3 o4 o5 o6 o7 o8 o9 o10, (∃ (may : Bool) (pre rest : List Str), linesM m = pre ++ rest ∧ rest ≠ [] ∧ ds = enS (pre.length : Nat) (rest ++ ks.flatMap linesK) ∧ s' = s.set a (.lst []) ∧ ρ = [some (.lst ((linesF m ks).map .str)), some (.ref a), some (.bl may), o3, o4, o5, o6, o7, o8, o9, o10]) ∨
      (∃ (may : Bool) (i : Nat) (k1 k2 : List KD), 10 ≤ i ∧ ks = k1 ++ k2 ∧ ds = enS (i : Nat) (k2.flatMap linesK) ∧ s' = s.set a (.lst (k1.map KD.row)) ∧ ρ = [some (.lst ((linesF m ks).map .str)), some (.ref a), some (.bl may), o3, o4, o5, o6, o7, o8, o9, o10]) ∨
      (∃ (i : Nat) (k1 : List KD) (k : KD) (p : Str × Bool) (k2 : List KD), 10 ≤ i ∧ ks = k1 ++ k :: k2 ∧ k.beg = some p ∧ ds = enS (i : Nat) (line2 p :: k2.flatMap linesK) ∧ s' = s.set a (.lst (k1.map KD.row ++ [row0 k])) ∧ ρ = [some (.lst ((linesF m ks).map .str)), some (.ref a), some (.bl true), o3, o4, o5, o6, o7, o8, o9, o10]))
    _ _ _ ⟨_, _, _, _, _, _, _, _, .inl ⟨false, [], linesM m, rfl, (fun h => by cases h), rfl, rfl, rfl⟩⟩ ?_ ?_
  · rintro d ds ρ s' ⟨o3, o4, o5, o6, o7, o8, o9, o10, ⟨may, pre, rest, h1, h2, hd, rfl, rfl⟩ | ⟨may, i, k1, k2, hi, hk, hd, rfl, rfl⟩ | ⟨i, k1, k, p, k2, hi, hk, hp, hd, rfl, rfl⟩⟩
    · cases rest with
      | nil => exact absurd rfl h2
      | cons z rest =>
        obtain ⟨rfl, rfl⟩ := List.cons.inj hd
        refine ⟨trivial, _, rfl, ?_⟩
        have hp10 : pre.length < 10 := by
          have := congrArg List.length h1
          rw [show (linesM m).length = 10 from rfl, List.length_append, List.length_cons] at this
          omega
        simp -implicitDefEqProofs -failIfUnchanged only [word_snoc, DL.runs_D14, DL.runs_D15, DL.runs_D16, DL.runs_D17, DL.runs_D19, DL.runs_D20, DL.runs_D23, DL.runs_D24, DL.runs_D25, DL.runs_D26, DL.runs_D31, DL.runs_D34, DL.runs_D36, DL.runs_mir, DL.runs_sp_exec, DL.runs_sp_fam2, DL.runs_sp_lit, DL.runs_sp_terms, DL.runs_sp_putn, DL.runs_sp_refused, x_iterEL, Nat.reduceSub, Nat.reduceAdd, Nat.reduceLT, true_and, h10]
        have hd : decide ((pre.length : Int) < 10) = true := decide_eq_true (by omega)
        rw [hd]
        simp -implicitDefEqProofs -failIfUnchanged only [word_snoc, DL.runs_D14, DL.runs_D15, DL.runs_D16, DL.runs_D17, DL.runs_D19, DL.runs_D20, DL.runs_D23, DL.runs_D24, DL.runs_D25, DL.runs_D26, DL.runs_D31, DL.runs_D34, DL.runs_D36, DL.runs_mir, DL.runs_sp_exec, DL.runs_sp_fam2, DL.runs_sp_lit, DL.runs_sp_terms, DL.runs_sp_putn, DL.runs_sp_refused, x_iterEL, Nat.reduceSub, Nat.reduceAdd, Nat.reduceLT, true_and]
        have e1 : ((pre.length : Nat) : Int) + 1 = (((pre ++ [z]).length : Nat) : Int) := by simp
        by_cases hr : rest = []
        · subst hr
          refine ⟨_, _, _, _, _, _, _, _, .inr (.inl ⟨may, pre.length + 1, [], ks, ?_, rfl, ?_, rfl, rfl⟩)⟩
          · have := congrArg List.length h1
            rw [show (linesM m).length = 10 from rfl, List.length_append, List.length_cons, List.length_nil] at this
            omega
          · rw [Int.natCast_add]; rfl
        · refine ⟨_, _, _, _, _, _, _, _, .inl ⟨may, pre ++ [z], rest, by simp [h1], hr, ?_, rfl⟩⟩
          rw [← e1]; rfl
    · cases k2 with
      | nil => cases hd
      | cons k k2 =>
        rw [List.flatMap_cons] at hd
        have hd : d :: ds = enS (i : Nat) (line1 k :: ((match k.beg with | none => [] | some p => [line2 p]) ++ k2.flatMap linesK)) := hd
        obtain ⟨rfl, rfl⟩ := List.cons.inj hd
        refine ⟨trivial, _, rfl, ?_⟩
        have gk := g.good k (by rw [hk]; simp)
        have hd10 : decide ((i : Int) < 10) = false := decide_eq_false (by omega)
        have hk1 : (k1.map KD.row).length < 100 := by
          have := congrArg List.length hk
          simp at this
          rw [List.length_map]; omega
        simp -implicitDefEqProofs -failIfUnchanged only [word_snoc, DL.runs_D14, DL.runs_D15, DL.runs_D16, DL.runs_D17, DL.runs_D19, DL.runs_D20, DL.runs_D23, DL.runs_D24, DL.runs_D25, DL.runs_D26, DL.runs_D31, DL.runs_D34, DL.runs_D36, DL.runs_mir, DL.runs_sp_exec, DL.runs_sp_fam2, DL.runs_sp_lit, DL.runs_sp_terms, DL.runs_sp_putn, DL.runs_sp_refused, x_iterEL, Nat.reduceSub, Nat.reduceAdd, Nat.reduceLT, true_and, h10]
        rw [hd10]
        simp -implicitDefEqProofs -failIfUnchanged only [word_snoc, DL.runs_D14, DL.runs_D15, DL.runs_D16, DL.runs_D17, DL.runs_D19, DL.runs_D20, DL.runs_D23, DL.runs_D24, DL.runs_D25, DL.runs_D26, DL.runs_D31, DL.runs_D34, DL.runs_D36, DL.runs_mir, DL.runs_sp_exec, DL.runs_sp_fam2, DL.runs_sp_lit, DL.runs_sp_terms, DL.runs_sp_putn, DL.runs_sp_refused, x_iterEL, Nat.reduceSub, Nat.reduceAdd, Nat.reduceLT, true_and]
        refine read_kind_wp gk ?_
        simp -implicitDefEqProofs -failIfUnchanged only [word_snoc, DL.runs_D14, DL.runs_D15, DL.runs_D16, DL.runs_D17, DL.runs_D19, DL.runs_D20, DL.runs_D23, DL.runs_D24, DL.runs_D25, DL.runs_D26, DL.runs_D31, DL.runs_D34, DL.runs_D36, DL.runs_mir, DL.runs_sp_exec, DL.runs_sp_fam2, DL.runs_sp_lit, DL.runs_sp_terms, DL.runs_sp_putn, DL.runs_sp_refused, x_iterEL, Nat.reduceSub, Nat.reduceAdd, Nat.reduceLT, true_and, appF_ok (show (k1.map KD.row).length < sizeLine from lt_sz (by omega))]
        cases hb : k.beg with
        | none =>
          refine ⟨_, _, _, _, _, _, _, _, .inr (.inl ⟨true, i + 1, k1 ++ [k], k2, by omega, by simp [hk], ?_, ?_, rfl⟩)⟩
          · rw [Int.natCast_add]; rfl
          · rw [List.map_append]
            have : k.row = row0 k := by unfold KD.row row0; rw [hb]; rfl
            rw [List.map_cons, this]; rfl
        | some p =>
          refine ⟨_, _, _, _, _, _, _, _, .inr (.inr ⟨i + 1, k1, k, p, k2, by omega, hk, hb, ?_, rfl, rfl⟩)⟩
          rw [Int.natCast_add]; rfl
    · obtain ⟨rfl, rfl⟩ := List.cons.inj hd
      refine ⟨trivial, _, rfl, ?_⟩
      have gk := g.good k (by rw [hk]; simp)
      have hu := gk.beg p hp
      have hd10 : decide ((i : Int) < 10) = false := decide_eq_false (by omega)
      simp -implicitDefEqProofs -failIfUnchanged only [word_snoc, DL.runs_D14, DL.runs_D15, DL.runs_D16, DL.runs_D17, DL.runs_D19, DL.runs_D20, DL.runs_D23, DL.runs_D24, DL.runs_D25, DL.runs_D26, DL.runs_D31, DL.runs_D34, DL.runs_D36, DL.runs_mir, DL.runs_sp_exec, DL.runs_sp_fam2, DL.runs_sp_lit, DL.runs_sp_terms, DL.runs_sp_putn, DL.runs_sp_refused, x_iterEL, Nat.reduceSub, Nat.reduceAdd, Nat.reduceLT, true_and, h10]
      rw [hd10]
      simp -implicitDefEqProofs -failIfUnchanged only [word_snoc, DL.runs_D14, DL.runs_D15, DL.runs_D16, DL.runs_D17, DL.runs_D19, DL.runs_D20, DL.runs_D23, DL.runs_D24, DL.runs_D25, DL.runs_D26, DL.runs_D31, DL.runs_D34, DL.runs_D36, DL.runs_mir, DL.runs_sp_exec, DL.runs_sp_fam2, DL.runs_sp_lit, DL.runs_sp_terms, DL.runs_sp_putn, DL.runs_sp_refused, x_iterEL, Nat.reduceSub, Nat.reduceAdd, Nat.reduceLT, true_and]
      refine read_kind_no hu ?_
      simp -implicitDefEqProofs -failIfUnchanged only [word_snoc, DL.runs_D14, DL.runs_D15, DL.runs_D16, DL.runs_D17, DL.runs_D19, DL.runs_D20, DL.runs_D23, DL.runs_D24, DL.runs_D25, DL.runs_D26, DL.runs_D31, DL.runs_D34, DL.runs_D36, DL.runs_mir, DL.runs_sp_exec, DL.runs_sp_fam2, DL.runs_sp_lit, DL.runs_sp_terms, DL.runs_sp_putn, DL.runs_sp_refused, x_iterEL, Nat.reduceSub, Nat.reduceAdd, Nat.reduceLT, true_and]
      refine read_begin_wp hu ?_
      have el : ixD (.ref a) (.int (-1)) (s.set a (.lst (k1.map KD.row ++ [row0 k]))) = some (row0 k) := ix_lastD S.set_same
      unfold begD row0 at *
      simp -implicitDefEqProofs -failIfUnchanged only [word_snoc, DL.runs_D14, DL.runs_D15, DL.runs_D16, DL.runs_D17, DL.runs_D19, DL.runs_D20, DL.runs_D23, DL.runs_D24, DL.runs_D25, DL.runs_D26, DL.runs_D31, DL.runs_D34, DL.runs_D36, DL.runs_mir, DL.runs_sp_exec, DL.runs_sp_fam2, DL.runs_sp_lit, DL.runs_sp_terms, DL.runs_sp_putn, DL.runs_sp_refused, x_iterEL, Nat.reduceSub, Nat.reduceAdd, Nat.reduceLT, true_and, el]
      refine ⟨k1.length, by rw [List.length_map]; exact ixN_last, _, _, _, _, _, _, _, _, .inr (.inl ⟨false, i + 1, k1 ++ [k], k2, by omega, by simp [hk], ?_, ?_, rfl⟩)⟩
      · rw [Int.natCast_add]; rfl
      · have e : (k1.map KD.row ++ [D.tup [.str k.name, oStr k.base, .bl k.own, .non]]).set k1.length (.tup [.str k.name, oStr k.base, .bl k.own, .tup [.str p.1, .bl p.2]]) = (k1 ++ [k]).map KD.row := by
          rw [List.set_append, if_neg (by simp), List.length_map, Nat.sub_self, List.map_append]
          unfold KD.row
          rw [List.map_cons, hp]; rfl
        rw [e]
  · rintro ρ s' ⟨o3, o4, o5, o6, o7, o8, o9, o10, ⟨may, pre, rest, h1, h2, hd, rfl, rfl⟩ | ⟨may, i, k1, k2, hi, hk, hd, rfl, rfl⟩ | ⟨i, k1, k, p, k2, hi, hk, hp, hd, rfl, rfl⟩⟩
    · cases rest with
      | nil => exact absurd rfl h2
      | cons z rest => cases hd
    · have hf : k2.flatMap linesK = [] := by
        cases hh : k2.flatMap linesK with
        | nil => rfl
        | cons z r => rw [hh] at hd; cases hd
      have := flat_nil hf
      subst this
      rw [List.append_nil] at hk
      subst hk
      refine ⟨trivial, ?_⟩
      simp -implicitDefEqProofs -failIfUnchanged only [word_snoc, DL.runs_D14, DL.runs_D15, DL.runs_D16, DL.runs_D17, DL.runs_D19, DL.runs_D20, DL.runs_D23, DL.runs_D24, DL.runs_D25, DL.runs_D26, DL.runs_D31, DL.runs_D34, DL.runs_D36, DL.runs_mir, DL.runs_sp_exec, DL.runs_sp_fam2, DL.runs_sp_lit, DL.runs_sp_terms, DL.runs_sp_putn, DL.runs_sp_refused, x_iterEL, Nat.reduceSub, Nat.reduceAdd, Nat.reduceLT, true_and, freezeE_lst ha]
      exact q
    · cases hd
theorem lineN {m : MkD} (g : m.Good) : ∀ z ∈ linesM m, (10 : Nat) ∉ z.cps.toList := by
  intro z hz
  obtain ⟨p, hp, rfl⟩ := List.mem_map.mp hz
  have h1 : ∀ r ∈ ruleL, (10 : Nat) ∉ r.cps.toList := by decide +kernel
  have h2 : ∀ p ∈ t_CHOICES, (match p.2 with | .tup xs => (match strsOf xs with | some ys => ys.all (fun c => decide ((10 : Nat) ∉ c.cps.toList)) | none => false) | _ => false) = true := by decide +kernel
  obtain ⟨⟨chs, h3, h4, h5⟩⟩ := Chs.all g p hp
  have h6 := h2 _ (lookup_mem h3)
  simp only [strsOf_map, List.all_eq_true, decide_eq_true_eq] at h6
  rw [str_app, str_app]
  intro h
  rcases List.mem_append.mp h with h | h
  · rcases List.mem_append.mp h with h | h
    · exact h1 _ (List.of_mem_zip hp).1 h
    · exact absurd h (by decide)
  · exact h6 _ h4 h
theorem line1N {k : KD} (g : k.Good) : (10 : Nat) ∉ (line1 k).cps.toList := by
  have a1 : (10 : Nat) ∉ k.name.cps.toList := name_no g.name (by decide +kernel)
  have a2 : (10 : Nat) ∉ (baseS k.base).cps.toList := by
    cases e : k.base with
    | none => exact fun h => by cases h
    | some b =>
      have a2 : (10 : Nat) ∉ b.cps.toList := name_no (g.base b e) (by decide +kernel)
      intro h
      have h : (10 : Nat) ∈ (("(" : Str) ++ b ++ (")" : Str)).cps.toList := h
      rw [str_app, str_app] at h
      rcases List.mem_append.mp h with h | h
      · rcases List.mem_append.mp h with h | h
        · exact absurd h (by decide)
        · exact a2 h
      · exact absurd h (by decide)
  have a3 : (10 : Nat) ∉ (if k.own = true then (" own" : Str) else "").cps.toList := by split <;> decide
  unfold line1
  rw [str_app, str_app, str_app]
  intro h
  rcases List.mem_append.mp h with h | h
  · rcases List.mem_append.mp h with h | h
    · rcases List.mem_append.mp h with h | h
      · exact absurd h (by decide)
      · exact a1 h
    · exact a2 h
  · exact a3 h
theorem line2N : ∀ p ∈ begs6, (10 : Nat) ∉ (line2 p).cps.toList := by decide +kernel
theorem linesN {m : MkD} {ks : List KD} (gm : m.Good) (g : FamGood ks) : ∀ z ∈ linesF m ks, (10 : Nat) ∉ z.cps.toList := by
  intro z hz
  rcases List.mem_append.mp hz with h | h
  · exact lineN gm z h
  · obtain ⟨k, hk, hz⟩ := List.mem_flatMap.mp h
    rcases List.mem_cons.mp hz with rfl | hz
    · exact line1N (g.good k hk)
    · cases e : k.beg with
      | none => rw [e] at hz; cases hz
      | some p =>
        rw [e] at hz
        rw [List.mem_singleton.mp hz]
        exact line2N _ (begs_in ((g.good k hk).beg p e))
theorem join_len {y : Str} : ∀ (L : List Str), (Str.join y L).length ≤ (L.map (·.length)).sum + L.length * y.length
  | [] => Nat.zero_le _
  | [x] => by show x.length ≤ _; simp
  | x :: z :: r => by
    have ih := join_len (y := y) (z :: r)
    show (x ++ y ++ Str.join y (z :: r)).length ≤ _
    rw [len_app, len_app]
    simp only [List.map_cons, List.sum_cons, List.length_cons] at ih ⊢
    rw [Nat.add_mul (r.length + 1) 1]
    omega
theorem split_textF {m : MkD} {ks : List KD} (gm : m.Good) (g : FamGood ks) : splitD (.str (textF m ks)) (.str "\n") s = some (.lst ((linesF m ks).map .str)) := by
  have e1 : Txt.split (textF m ks) "\n" = linesF m ks := TL.split_join (s := 10) (S := []) rfl (by decide +kernel) (fun h => by cases h) (linesN gm g)
  have e2 : (textF m ks).length ≤ 2000 := by
    have h1 := join_len (y := "\n") (linesF m ks)
    obtain ⟨h2, h3⟩ := linesF_len gm g
    have h4 := sum_le h3
    have l : (("\n" : Str)).length = 1 := rfl
    unfold textF
    rw [TL.join_eq]
    rw [l] at h1
    omega
  show (if (("\n" : Str).length == 0) = false ∧ (textF m ks).length + 2 ≤ sizeLine then some (D.lst ((Txt.split (textF m ks) "\n").map .str)) else none) = _
  rw [if_pos ⟨rfl, le_sz (by omega)⟩, e1]
theorem line_at {m : MkD} {ks : List KD} {acc rest : List (Str × Str)} {p : Str × Str} (h : acc ++ p :: rest = ruleL.zip m.list) : ixD (.lst ((linesF m ks).map .str)) (.int (acc.length : Nat)) s = some (.str (p.1 ++ (" " : Str) ++ p.2)) := by
  have e : (linesF m ks).map D.str = acc.map (fun p => D.str (p.1 ++ (" " : Str) ++ p.2)) ++ D.str (p.1 ++ (" " : Str) ++ p.2) :: (rest.map (fun p => p.1 ++ (" " : Str) ++ p.2) ++ ks.flatMap linesK).map D.str := by
    unfold linesF linesM
    rw [← h]; simp
  rw [ix_lst, e, atI_nat (by simp), List.getElem?_append_right (by simp)]
  simp
theorem read_family_wp {m : MkD} {ks : List KD} (gm : m.Good) (g : FamGood ks) (q : Q (famD m ks) s) : d_read_family [.str (textF m ks)] s Q E := by
  unfold d_read_family b_read_family
  simp -implicitDefEqProofs -failIfUnchanged only [word_snoc, DL.runs_D14, DL.runs_D15, DL.runs_D16, DL.runs_D17, DL.runs_D19, DL.runs_D20, DL.runs_D23, DL.runs_D24, DL.runs_D25, DL.runs_D26, DL.runs_D31, DL.runs_D34, DL.runs_D36, DL.runs_mir, DL.runs_sp_exec, DL.runs_sp_fam2, DL.runs_sp_lit, DL.runs_sp_terms, DL.runs_sp_putn, DL.runs_sp_refused, x_iterEL, Nat.reduceSub, Nat.reduceAdd, Nat.reduceLT, true_and, split_textF gm g]
  intro t ht
  have hs : ((tupOf cc_Maker_RULES).bind fun xs => if xs.length ≤ sizeLine then some (⟨enumD xs, fun _ => True⟩ : Src) else none) = some ⟨enS 0 ruleL, fun _ => True⟩ := by
    show (if (ruleL.map D.str).length ≤ sizeLine then some (⟨enumD (ruleL.map D.str), fun _ => True⟩ : Src) else none) = _
    rw [if_pos (by decide), enum_strs]
  simp -implicitDefEqProofs -failIfUnchanged only [word_snoc, DL.runs_D14, DL.runs_D15, DL.runs_D16, DL.runs_D17, DL.runs_D19, DL.runs_D20, DL.runs_D23, DL.runs_D24, DL.runs_D25, DL.runs_D26, DL.runs_D31, DL.runs_D34, DL.runs_D36, DL.runs_mir, DL.runs_sp_exec, DL.runs_sp_fam2, DL.runs_sp_lit, DL.runs_sp_terms, DL.runs_sp_putn, DL.runs_sp_refused, x_iterEL, Nat.reduceSub, Nat.reduceAdd, Nat.reduceLT, true_and, hs]
  have hz : (ruleL.zip m.list).length = 10 := rfl
  have hlen : 10 ≤ (linesF m ks).length := by
    unfold linesF
    rw [List.length_append, show (linesM m).length = 10 from rfl]; omega
  have hle : ((linesF m ks).map D.str).length ≤ sizeLine := by
    have := (linesF_len gm g).1
    rw [List.length_map]
    exact le_sz (by omega)
  refine loop_inv (fun ds ρ s' => ∃ acc rest : List (Str × Str), acc ++ rest = ruleL.zip m.list ∧ ds = enS (acc.length : Nat) (rest.map (·.1)) ∧ s' = s.set t (.dic (strKV acc)) ∧ ∃ o3 o4 o5, ρ = [some (.str (textF m ks)), some (.lst ((linesF m ks).map .str)), some (.ref t), o3, o4, o5, none, none, none, none]) _ _ _ ⟨[], _, rfl, rfl, rfl, _, _, _, rfl⟩ ?_ ?_
  · rintro d ds ρ s' ⟨acc, rest, h1, hd, rfl, o3, o4, o5, rfl⟩
    cases rest with
    | nil => cases hd
    | cons p rest =>
      obtain ⟨rfl, rfl⟩ := List.cons.inj hd
      refine ⟨trivial, _, rfl, ?_⟩
      have hp : p ∈ ruleL.zip m.list := by rw [← h1]; simp
      have hi : acc.length < 10 := by
        have := congrArg List.length h1
        rw [List.length_append, List.length_cons, hz] at this
        omega
      have hk : (Sum.inr p.1 : Key) ∉ (strKV acc).map (·.1) := by
        rw [strKV_keys]
        intro hm
        obtain ⟨q2, h5, h6⟩ := List.mem_map.mp hm
        have h7 : q2.1 = p.1 := Sum.inr.inj h6
        have nd : ((acc ++ p :: rest).map (·.1)).Nodup := by rw [h1]; exact ruleL_nd
        rw [List.map_append] at nd
        exact (List.nodup_append.mp nd).2.2 _ (List.mem_map.mpr ⟨q2, h5, rfl⟩) _ (by simp) h7
      have hl : (strKV acc).length < sizeLine := lt_sz (by simp [strKV]; omega)
      have e : putKD (strKV acc) (.inr p.1) (.str p.2) = strKV (acc ++ [p]) := by rw [put_new hk]; simp [strKV]
      have h10 : ∀ s' : S, lenD [.lst ((linesF m ks).map D.str)] s' = some (.int (((linesF m ks).map D.str).length : Nat)) := fun s' => rfl
      have hg : decide ((((linesF m ks).map D.str).length : Int) ≤ ((acc.length : Nat) : Int)) = false := decide_eq_false (by rw [List.length_map]; omega)
      obtain ⟨⟨chs, c1, c2, c3⟩⟩ := Chs.all gm p hp
      have hr := rl_len p.1 (List.of_mem_zip hp).1
      have hc := Chs.len gm p hp
      simp -implicitDefEqProofs -failIfUnchanged only [word_snoc, DL.runs_D14, DL.runs_D15, DL.runs_D16, DL.runs_D17, DL.runs_D19, DL.runs_D20, DL.runs_D23, DL.runs_D24, DL.runs_D25, DL.runs_D26, DL.runs_D31, DL.runs_D34, DL.runs_D36, DL.runs_mir, DL.runs_sp_exec, DL.runs_sp_fam2, DL.runs_sp_lit, DL.runs_sp_terms, DL.runs_sp_putn, DL.runs_sp_refused, x_iterEL, Nat.reduceSub, Nat.reduceAdd, Nat.reduceLT, true_and, h10]
      rw [hg]
      simp -implicitDefEqProofs -failIfUnchanged only [word_snoc, DL.runs_D14, DL.runs_D15, DL.runs_D16, DL.runs_D17, DL.runs_D19, DL.runs_D20, DL.runs_D23, DL.runs_D24, DL.runs_D25, DL.runs_D26, DL.runs_D31, DL.runs_D34, DL.runs_D36, DL.runs_mir, DL.runs_sp_exec, DL.runs_sp_fam2, DL.runs_sp_lit, DL.runs_sp_terms, DL.runs_sp_putn, DL.runs_sp_refused, x_iterEL, Nat.reduceSub, Nat.reduceAdd, Nat.reduceLT, true_and]
      refine ⟨_, line_at (s := s) h1, ?_⟩
      refine read_rule_wp c1 c2 (by omega) (by omega) ?_
      simp -implicitDefEqProofs -failIfUnchanged only [word_snoc, DL.runs_D14, DL.runs_D15, DL.runs_D16, DL.runs_D17, DL.runs_D19, DL.runs_D20, DL.runs_D23, DL.runs_D24, DL.runs_D25, DL.runs_D26, DL.runs_D31, DL.runs_D34, DL.runs_D36, DL.runs_mir, DL.runs_sp_exec, DL.runs_sp_fam2, DL.runs_sp_lit, DL.runs_sp_terms, DL.runs_sp_putn, DL.runs_sp_refused, x_iterEL, Nat.reduceSub, Nat.reduceAdd, Nat.reduceLT, true_and, e]
      refine ⟨hl, acc ++ [p], rest, by simp [h1], ?_, rfl, _, _, _, rfl⟩
      rw [List.length_append, Int.natCast_add]; rfl
  · rintro ρ s' ⟨acc, rest, h1, hd, rfl, o3, o4, o5, rfl⟩
    refine ⟨trivial, ?_⟩
    have hr0 : rest = [] := by
      cases rest with
      | nil => rfl
      | cons p rest => cases hd
    subst hr0
    rw [List.append_nil] at h1
    subst h1
    simp -implicitDefEqProofs -failIfUnchanged only [word_snoc, DL.runs_D14, DL.runs_D15, DL.runs_D16, DL.runs_D17, DL.runs_D19, DL.runs_D20, DL.runs_D23, DL.runs_D24, DL.runs_D25, DL.runs_D26, DL.runs_D31, DL.runs_D34, DL.runs_D36, DL.runs_mir, DL.runs_sp_exec, DL.runs_sp_fam2, DL.runs_sp_lit, DL.runs_sp_terms, DL.runs_sp_putn, DL.runs_sp_refused, x_iterEL, Nat.reduceSub, Nat.reduceAdd, Nat.reduceLT, true_and]
    refine read_rows_wp g ?_
    simp -implicitDefEqProofs -failIfUnchanged only [word_snoc, DL.runs_D14, DL.runs_D15, DL.runs_D16, DL.runs_D17, DL.runs_D19, DL.runs_D20, DL.runs_D23, DL.runs_D24, DL.runs_D25, DL.runs_D26, DL.runs_D31, DL.runs_D34, DL.runs_D36, DL.runs_mir, DL.runs_sp_exec, DL.runs_sp_fam2, DL.runs_sp_lit, DL.runs_sp_terms, DL.runs_sp_putn, DL.runs_sp_refused, x_iterEL, Nat.reduceSub, Nat.reduceAdd, Nat.reduceLT, true_and, ite_src (show (ks.map KD.row).length ≤ sizeLine by simpa using g.sz)]
    refine lc_pure KD.row KD.ins ks [] trivial (fun k hk => ⟨_, rfl, ?_⟩) ?_
    · simp -implicitDefEqProofs -failIfUnchanged only [word_snoc, DL.runs_D14, DL.runs_D15, DL.runs_D16, DL.runs_D17, DL.runs_D19, DL.runs_D20, DL.runs_D23, DL.runs_D24, DL.runs_D25, DL.runs_D26, DL.runs_D31, DL.runs_D34, DL.runs_D36, DL.runs_mir, DL.runs_sp_exec, DL.runs_sp_fam2, DL.runs_sp_lit, DL.runs_sp_terms, DL.runs_sp_putn, DL.runs_sp_refused, x_iterEL, Nat.reduceSub, Nat.reduceAdd, Nat.reduceLT, true_and]
      exact Kind_of_good (g.good k hk) ⟨rfl, rfl⟩
    simp -implicitDefEqProofs -failIfUnchanged only [word_snoc, DL.runs_D14, DL.runs_D15, DL.runs_D16, DL.runs_D17, DL.runs_D19, DL.runs_D20, DL.runs_D23, DL.runs_D24, DL.runs_D25, DL.runs_D26, DL.runs_D31, DL.runs_D34, DL.runs_D36, DL.runs_mir, DL.runs_sp_exec, DL.runs_sp_fam2, DL.runs_sp_lit, DL.runs_sp_terms, DL.runs_sp_putn, DL.runs_sp_refused, x_iterEL, Nat.reduceSub, Nat.reduceAdd, Nat.reduceLT, true_and]
    refine ⟨(ruleL, m.list.map .str), kkO_of (by rw [dicOf_set, strKV_zip]) rfl, fun a ha => ?_⟩
    have eo : ∀ n : Fn, onlyK ["place", "key", "store", "stopped", "fits", "misfit", "compare", "unlike", "unready", "again"] n ruleL = n := fun n => x_onlyK (ns := ruleL)
    generalize hs5 : (s.set t (.dic (strKV (ruleL.zip m.list)))) = s5 at ha ⊢
    simp -implicitDefEqProofs -failIfUnchanged only [word_snoc, DL.runs_D14, DL.runs_D15, DL.runs_D16, DL.runs_D17, DL.runs_D19, DL.runs_D20, DL.runs_D23, DL.runs_D24, DL.runs_D25, DL.runs_D26, DL.runs_D31, DL.runs_D34, DL.runs_D36, DL.runs_mir, DL.runs_sp_exec, DL.runs_sp_fam2, DL.runs_sp_lit, DL.runs_sp_terms, DL.runs_sp_putn, DL.runs_sp_refused, x_iterEL, Nat.reduceSub, Nat.reduceAdd, Nat.reduceLT, true_and, eo, MkD.list]
    refine Maker_init_wp gm ?_
    simp -implicitDefEqProofs -failIfUnchanged only [word_snoc, DL.runs_D14, DL.runs_D15, DL.runs_D16, DL.runs_D17, DL.runs_D19, DL.runs_D20, DL.runs_D23, DL.runs_D24, DL.runs_D25, DL.runs_D26, DL.runs_D31, DL.runs_D34, DL.runs_D36, DL.runs_mir, DL.runs_sp_exec, DL.runs_sp_fam2, DL.runs_sp_lit, DL.runs_sp_terms, DL.runs_sp_putn, DL.runs_sp_refused, x_iterEL, Nat.reduceSub, Nat.reduceAdd, Nat.reduceLT, true_and, ha]
    refine Family_of_wp g ?_
    rw [← hs5]
    have hdr : dropO (some (some (.ref t))) (s.set t (.dic (strKV (ruleL.zip m.list)))) = s := by
      unfold dropO
      simp only [S.set_same]
      exact S.del_set ht
    rw [hdr]
    exact q
theorem dget_list {m : MkD} (gm : m.Good) {QL : List D → S → Prop} {P : S → Prop} {ρ : Env} {j k : Nat} (hP : P s) (q : QL (m.list.map .str) s) (h : ∀ p ∈ ruleL.zip (m.list.zip chL), ∃ ρ1, toName j (D.tup [.str p.1, .tup (p.2.2.map .str)]) ρ = some ρ1 ∧ ρ1[k]? = some (some (rulesD m)) ∧ ρ1[j]? = some (some (D.tup [.str p.1, .tup (p.2.2.map .str)]))) : lcLoop P (toName j) yesT (op2 dgetD (var k) (op2 ixD (var j) (cst (.int 0)))) ρ (rcs.map fun p => D.tup [.str p.1, .tup (p.2.map .str)]) [] s QL E := by
  have ez : rcs.map (fun p => D.tup [.str p.1, .tup (p.2.map .str)]) = (ruleL.zip (m.list.zip chL)).map fun p => D.tup [.str p.1, .tup (p.2.2.map .str)] := rfl
  rw [ez]
  refine lc_pure (fun p : Str × Str × List Str => D.tup [.str p.1, .tup (p.2.2.map .str)]) (fun p => .str p.2.1) _ [] hP (fun p hp => ?_) ?_
  · have hm : (p.1, p.2.1) ∈ ruleL.zip m.list := by
      obtain ⟨i, hi, rfl⟩ := List.getElem_of_mem hp
      rw [List.getElem_zip, List.getElem_zip]
      have hi' : i < 10 := by simpa [ruleL, MkD.list, chL] using hi
      have : (ruleL.zip m.list)[i]'(by simpa [ruleL, MkD.list] using hi') = (ruleL[i]'hi', m.list[i]'hi') := List.getElem_zip
      have h9 := List.getElem_mem (l := ruleL.zip m.list) (n := i) (by simpa [ruleL, MkD.list] using hi')
      rw [this] at h9
      exact h9
    obtain ⟨ρ1, r1, r2, r3⟩ := h p hp
    refine ⟨ρ1, r1, ?_⟩
    simp -implicitDefEqProofs -failIfUnchanged only [word_snoc, DL.runs_D14, DL.runs_D15, DL.runs_D16, DL.runs_D17, DL.runs_D19, DL.runs_D20, DL.runs_D23, DL.runs_D24, DL.runs_D25, DL.runs_D26, DL.runs_D31, DL.runs_D34, DL.runs_D36, DL.runs_mir, DL.runs_sp_exec, DL.runs_sp_fam2, DL.runs_sp_lit, DL.runs_sp_terms, DL.runs_sp_putn, DL.runs_sp_refused, x_iterEL, Nat.reduceSub, Nat.reduceAdd, Nat.reduceLT, true_and, r2, r3, get_rule hm]
  · exact q
end
theorem law_true : d_law [.scr] S.nil (fun d _ => d = .bl true) (fun _ _ => False) := by
  unfold d_law b_law
  simp -implicitDefEqProofs -failIfUnchanged only [word_snoc, DL.runs_D14, DL.runs_D15, DL.runs_D16, DL.runs_D17, DL.runs_D19, DL.runs_D20, DL.runs_D23, DL.runs_D24, DL.runs_D25, DL.runs_D26, DL.runs_D31, DL.runs_D34, DL.runs_D36, DL.runs_mir, DL.runs_sp_exec, DL.runs_sp_fam2, DL.runs_sp_lit, DL.runs_sp_terms, DL.runs_sp_putn, DL.runs_sp_refused, x_iterEL, Nat.reduceSub, Nat.reduceAdd, Nat.reduceLT, true_and]
  refine ⟨rfl, fun b c hn h1 h2 => ?_⟩
  have hb : ((S.nil.set c .raw).set b (.bag c)).map b = some (.bag c) := S.set_same
  generalize ((S.nil.set c .raw).set b (.bag c)) = s at hb
  simp -implicitDefEqProofs -failIfUnchanged only [word_snoc, DL.runs_D14, DL.runs_D15, DL.runs_D16, DL.runs_D17, DL.runs_D19, DL.runs_D20, DL.runs_D23, DL.runs_D24, DL.runs_D25, DL.runs_D26, DL.runs_D31, DL.runs_D34, DL.runs_D36, DL.runs_mir, DL.runs_sp_exec, DL.runs_sp_fam2, DL.runs_sp_lit, DL.runs_sp_terms, DL.runs_sp_putn, DL.runs_sp_refused, x_iterEL, Nat.reduceSub, Nat.reduceAdd, Nat.reduceLT, true_and]
  refine rules_wp hb fun m gm => ?_
  simp -implicitDefEqProofs -failIfUnchanged only [word_snoc, DL.runs_D14, DL.runs_D15, DL.runs_D16, DL.runs_D17, DL.runs_D19, DL.runs_D20, DL.runs_D23, DL.runs_D24, DL.runs_D25, DL.runs_D26, DL.runs_D31, DL.runs_D34, DL.runs_D36, DL.runs_mir, DL.runs_sp_exec, DL.runs_sp_fam2, DL.runs_sp_lit, DL.runs_sp_terms, DL.runs_sp_putn, DL.runs_sp_refused, x_iterEL, Nat.reduceSub, Nat.reduceAdd, Nat.reduceLT, true_and]
  refine many_wp hb fun n n0 n1 => ?_
  simp -implicitDefEqProofs -failIfUnchanged only [word_snoc, DL.runs_D14, DL.runs_D15, DL.runs_D16, DL.runs_D17, DL.runs_D19, DL.runs_D20, DL.runs_D23, DL.runs_D24, DL.runs_D25, DL.runs_D26, DL.runs_D31, DL.runs_D34, DL.runs_D36, DL.runs_mir, DL.runs_sp_exec, DL.runs_sp_fam2, DL.runs_sp_lit, DL.runs_sp_terms, DL.runs_sp_putn, DL.runs_sp_refused, x_iterEL, Nat.reduceSub, Nat.reduceAdd, Nat.reduceLT, true_and]
  refine draw_wp hb (by decide) (by decide) fun v v0 v1 => ?_
  simp -implicitDefEqProofs -failIfUnchanged only [word_snoc, DL.runs_D14, DL.runs_D15, DL.runs_D16, DL.runs_D17, DL.runs_D19, DL.runs_D20, DL.runs_D23, DL.runs_D24, DL.runs_D25, DL.runs_D26, DL.runs_D31, DL.runs_D34, DL.runs_D36, DL.runs_mir, DL.runs_sp_exec, DL.runs_sp_fam2, DL.runs_sp_lit, DL.runs_sp_terms, DL.runs_sp_putn, DL.runs_sp_refused, x_iterEL, Nat.reduceSub, Nat.reduceAdd, Nat.reduceLT, true_and]
  refine rows_wp hb (by omega) (by omega) fun ks g hk => ?_
  simp -implicitDefEqProofs -failIfUnchanged only [word_snoc, DL.runs_D14, DL.runs_D15, DL.runs_D16, DL.runs_D17, DL.runs_D19, DL.runs_D20, DL.runs_D23, DL.runs_D24, DL.runs_D25, DL.runs_D26, DL.runs_D31, DL.runs_D34, DL.runs_D36, DL.runs_mir, DL.runs_sp_exec, DL.runs_sp_fam2, DL.runs_sp_lit, DL.runs_sp_terms, DL.runs_sp_putn, DL.runs_sp_refused, x_iterEL, Nat.reduceSub, Nat.reduceAdd, Nat.reduceLT, true_and]
  refine shown_wp gm g ?_
  simp -implicitDefEqProofs -failIfUnchanged only [word_snoc, DL.runs_D14, DL.runs_D15, DL.runs_D16, DL.runs_D17, DL.runs_D19, DL.runs_D20, DL.runs_D23, DL.runs_D24, DL.runs_D25, DL.runs_D26, DL.runs_D31, DL.runs_D34, DL.runs_D36, DL.runs_mir, DL.runs_sp_exec, DL.runs_sp_fam2, DL.runs_sp_lit, DL.runs_sp_terms, DL.runs_sp_putn, DL.runs_sp_refused, x_iterEL, Nat.reduceSub, Nat.reduceAdd, Nat.reduceLT, true_and, join_lst (linesF_ok gm g)]
  have e : (Txt.join "\n" (linesF m ks)) = textF m ks := rfl
  rw [e]
  refine read_family_wp gm g ?_
  unfold famD
  have hks : (ks.map KD.ins).length ≤ sizeLine := by simpa using g.sz
  have hl : listF [kindsD ks] s = some (.lst (ks.map KD.ins)) := rfl
  simp -implicitDefEqProofs -failIfUnchanged only [word_snoc, DL.runs_D14, DL.runs_D15, DL.runs_D16, DL.runs_D17, DL.runs_D19, DL.runs_D20, DL.runs_D23, DL.runs_D24, DL.runs_D25, DL.runs_D26, DL.runs_D31, DL.runs_D34, DL.runs_D36, DL.runs_mir, DL.runs_sp_exec, DL.runs_sp_fam2, DL.runs_sp_lit, DL.runs_sp_terms, DL.runs_sp_putn, DL.runs_sp_refused, x_iterEL, Nat.reduceSub, Nat.reduceAdd, Nat.reduceLT, true_and, hl, ite_src hks]
  refine lc_pure KD.ins KD.row ks [] trivial (fun k hk => ⟨_, rfl, ?_⟩) ?_
  · have ho : insOk "Kind" "row" k.ins s = some () := rfl
    simp -implicitDefEqProofs -failIfUnchanged only [word_snoc, DL.runs_D14, DL.runs_D15, DL.runs_D16, DL.runs_D17, DL.runs_D19, DL.runs_D20, DL.runs_D23, DL.runs_D24, DL.runs_D25, DL.runs_D26, DL.runs_D31, DL.runs_D34, DL.runs_D36, DL.runs_mir, DL.runs_sp_exec, DL.runs_sp_fam2, DL.runs_sp_lit, DL.runs_sp_terms, DL.runs_sp_putn, DL.runs_sp_refused, x_iterEL, Nat.reduceSub, Nat.reduceAdd, Nat.reduceLT, true_and, ho]
    exact Kind_row_wp ⟨rfl, rfl⟩
  have ho : insOk "Maker" "written" m.ins s = some () := rfl
  simp -implicitDefEqProofs -failIfUnchanged only [word_snoc, DL.runs_D14, DL.runs_D15, DL.runs_D16, DL.runs_D17, DL.runs_D19, DL.runs_D20, DL.runs_D23, DL.runs_D24, DL.runs_D25, DL.runs_D26, DL.runs_D31, DL.runs_D34, DL.runs_D36, DL.runs_mir, DL.runs_sp_exec, DL.runs_sp_fam2, DL.runs_sp_lit, DL.runs_sp_terms, DL.runs_sp_putn, DL.runs_sp_refused, x_iterEL, Nat.reduceSub, Nat.reduceAdd, Nat.reduceLT, true_and, ne_rows g.good g.good, decide_true, Bool.not_true, ho]
  refine Maker_written_wp ?_
  refine table_wp ?_
  unfold tableD
  simp -implicitDefEqProofs -failIfUnchanged only [word_snoc, DL.runs_D14, DL.runs_D15, DL.runs_D16, DL.runs_D17, DL.runs_D19, DL.runs_D20, DL.runs_D23, DL.runs_D24, DL.runs_D25, DL.runs_D26, DL.runs_D31, DL.runs_D34, DL.runs_D36, DL.runs_mir, DL.runs_sp_exec, DL.runs_sp_fam2, DL.runs_sp_lit, DL.runs_sp_terms, DL.runs_sp_putn, DL.runs_sp_refused, x_iterEL, Nat.reduceSub, Nat.reduceAdd, Nat.reduceLT, true_and, ite_src (show (rcs.map fun p => D.tup [.str p.1, .tup (p.2.map .str)]).length ≤ sizeLine by decide)]
  refine dget_list gm trivial ?_ (fun p hp => ⟨_, rfl, rfl, rfl⟩)
  have e2 : neD m.row (.tup (m.list.map .str)) s = some (.bl false) := by
    have := neD_of (eqB_T (s := s) (list_ok gm) (list_ok gm))
    rw [decide_eq_true rfl] at this
    exact this
  simp -implicitDefEqProofs -failIfUnchanged only [word_snoc, DL.runs_D14, DL.runs_D15, DL.runs_D16, DL.runs_D17, DL.runs_D19, DL.runs_D20, DL.runs_D23, DL.runs_D24, DL.runs_D25, DL.runs_D26, DL.runs_D31, DL.runs_D34, DL.runs_D36, DL.runs_mir, DL.runs_sp_exec, DL.runs_sp_fam2, DL.runs_sp_lit, DL.runs_sp_terms, DL.runs_sp_putn, DL.runs_sp_refused, x_iterEL, Nat.reduceSub, Nat.reduceAdd, Nat.reduceLT, true_and, e2]
  refine family_wp gm g ?_
  have h2 : isC s "Family" (famD m ks) = some () := rfl
  have h3 : tyAny ownC s (famD m ks) = some () := rfl
  have ef : D.ins "Family" ["maker", "kinds"] [m.ins, kindsD ks] = famD m ks := rfl
  rw [ef]
  simp -implicitDefEqProofs -failIfUnchanged only [word_snoc, DL.runs_D14, DL.runs_D15, DL.runs_D16, DL.runs_D17, DL.runs_D19, DL.runs_D20, DL.runs_D23, DL.runs_D24, DL.runs_D25, DL.runs_D26, DL.runs_D31, DL.runs_D34, DL.runs_D36, DL.runs_mir, DL.runs_sp_exec, DL.runs_sp_fam2, DL.runs_sp_lit, DL.runs_sp_terms, DL.runs_sp_putn, DL.runs_sp_refused, x_iterEL, Nat.reduceSub, Nat.reduceAdd, Nat.reduceLT, true_and, h2, h3]
  refine Family_eq_wp gm gm g.good g.good ?_
  simp -implicitDefEqProofs -failIfUnchanged only [word_snoc, DL.runs_D14, DL.runs_D15, DL.runs_D16, DL.runs_D17, DL.runs_D19, DL.runs_D20, DL.runs_D23, DL.runs_D24, DL.runs_D25, DL.runs_D26, DL.runs_D31, DL.runs_D34, DL.runs_D36, DL.runs_mir, DL.runs_sp_exec, DL.runs_sp_fam2, DL.runs_sp_lit, DL.runs_sp_terms, DL.runs_sp_putn, DL.runs_sp_refused, x_iterEL, Nat.reduceSub, Nat.reduceAdd, Nat.reduceLT, true_and, decide_true, Bool.and_true, Bool.true_xor]
  refine show_family_wp gm g ?_
  simp -implicitDefEqProofs -failIfUnchanged only [word_snoc, DL.runs_D14, DL.runs_D15, DL.runs_D16, DL.runs_D17, DL.runs_D19, DL.runs_D20, DL.runs_D23, DL.runs_D24, DL.runs_D25, DL.runs_D26, DL.runs_D31, DL.runs_D34, DL.runs_D36, DL.runs_mir, DL.runs_sp_exec, DL.runs_sp_fam2, DL.runs_sp_lit, DL.runs_sp_terms, DL.runs_sp_putn, DL.runs_sp_refused, x_iterEL, Nat.reduceSub, Nat.reduceAdd, Nat.reduceLT, true_and, decide_true]
end DL
namespace DL
def runs_sp_k11 := @x_iterEL
end DL
namespace DL
open PySem L2
def topS (i : Nat) : Stmt := PySem.Challenge.pw_oneandonly_k11_texts_read.main.body.getD i (.Pass ⟨0, 0, 0, 0⟩)
abbrev s_bag : Stmt := topS 41
abbrev N_bag : List Str := ["_law_script", "_law_seed", "_law_cell"]
theorem sc_bag : FnScope N_bag ["_law_script"] (defScope s_bag) := ⟨rfl, rfl, rfl, by decide +kernel, rfl, by decide +kernel, by decide +kernel⟩
abbrev s_table : Stmt := topS 47
abbrev N_table : List Str := []
theorem sc_table : FnScope N_table [] (defScope s_table) := ⟨rfl, rfl, rfl, by decide +kernel, rfl, by decide +kernel, by decide +kernel⟩
abbrev s_mixed : Stmt := topS 42
abbrev N_mixed : List Str := ["_law_seed", "_law_count", "_law_one", "_law_two"]
theorem sc_mixed : FnScope N_mixed ["_law_seed", "_law_count"] (defScope s_mixed) := ⟨rfl, rfl, rfl, by decide +kernel, rfl, by decide +kernel, by decide +kernel⟩
abbrev s_draw : Stmt := topS 43
abbrev N_draw : List Str := ["_law_bag_here", "_law_limit", "_law_cell", "_law_digit"]
theorem sc_draw : FnScope N_draw ["_law_bag_here", "_law_limit"] (defScope s_draw) := ⟨rfl, rfl, rfl, by decide +kernel, rfl, by decide +kernel, by decide +kernel⟩
abbrev s_rules : Stmt := topS 48
abbrev N_rules : List Str := ["_law_bag_here", "_law_rules_here", "_law_row"]
theorem sc_rules : FnScope N_rules ["_law_bag_here"] (defScope s_rules) := ⟨rfl, rfl, rfl, by decide +kernel, rfl, by decide +kernel, by decide +kernel⟩
abbrev s_word : Stmt := topS 44
abbrev N_word : List Str := ["_law_bag_here", "_law_letters", "_law_many_here", "_law_signs", "_law_k"]
theorem sc_word : FnScope N_word ["_law_bag_here"] (defScope s_word) := ⟨rfl, rfl, rfl, by decide +kernel, rfl, by decide +kernel, by decide +kernel⟩
abbrev s_short : Stmt := topS 45
abbrev N_short : List Str := ["_law_bag_here", "_law_letters", "_law_word_here"]
theorem sc_short : FnScope N_short ["_law_bag_here"] (defScope s_short) := ⟨rfl, rfl, rfl, by decide +kernel, rfl, by decide +kernel, by decide +kernel⟩
abbrev s_fresh : Stmt := topS 46
abbrev N_fresh : List Str := ["_law_bag_here", "_law_taken", "_law_word_here", "_law_sign"]
theorem sc_fresh : FnScope N_fresh ["_law_bag_here", "_law_taken"] (defScope s_fresh) := ⟨rfl, rfl, rfl, by decide +kernel, rfl, by decide +kernel, by decide +kernel⟩
abbrev s_begin : Stmt := topS 50
abbrev N_begin : List Str := ["_law_bag_here", "_law_many_here"]
theorem sc_begin : FnScope N_begin ["_law_bag_here"] (defScope s_begin) := ⟨rfl, rfl, rfl, by decide +kernel, rfl, by decide +kernel, by decide +kernel⟩
abbrev s_rows : Stmt := topS 51
abbrev N_rows : List Str := ["_law_bag_here", "_law_many_here", "_law_rows_here", "_law_k", "_law_name", "_law_above", "_law_base", "_law_row"]
theorem sc_rows : FnScope N_rows ["_law_bag_here", "_law_many_here"] (defScope s_rows) := ⟨rfl, rfl, rfl, by decide +kernel, rfl, by decide +kernel, by decide +kernel⟩
abbrev s_many : Stmt := topS 53
abbrev N_many : List Str := ["_law_bag_here", "_law_many_here"]
theorem sc_many : FnScope N_many ["_law_bag_here"] (defScope s_many) := ⟨rfl, rfl, rfl, by decide +kernel, rfl, by decide +kernel, by decide +kernel⟩
abbrev s_shown : Stmt := topS 54
abbrev N_shown : List Str := ["_law_rules_here", "_law_rows_here", "_law_lines", "_law_row", "_law_line"]
theorem sc_shown : FnScope N_shown ["_law_rules_here", "_law_rows_here"] (defScope s_shown) := ⟨rfl, rfl, rfl, by decide +kernel, rfl, by decide +kernel, by decide +kernel⟩
abbrev s_is_choice : Stmt := topS 27
abbrev N_is_choice : List Str := ["rule", "given"]
theorem sc_is_choice : FnScope N_is_choice ["rule", "given"] (defScope s_is_choice) := ⟨rfl, rfl, rfl, by decide +kernel, rfl, by decide +kernel, by decide +kernel⟩
abbrev s_read_rule : Stmt := topS 35
abbrev N_read_rule : List Str := ["rule", "line", "head", "given"]
theorem sc_read_rule : FnScope N_read_rule ["rule", "line"] (defScope s_read_rule) := ⟨rfl, rfl, rfl, by decide +kernel, rfl, by decide +kernel, by decide +kernel⟩
abbrev s_is_name : Stmt := topS 18
abbrev N_is_name : List Str := ["thing", "sign"]
theorem sc_is_name : FnScope N_is_name ["thing"] (defScope s_is_name) := ⟨rfl, rfl, rfl, by decide +kernel, rfl, by decide +kernel, by decide +kernel⟩
abbrev s_read_kind : Stmt := topS 36
abbrev N_read_kind : List Str := ["line", "rest", "own", "name", "opening", "base"]
theorem sc_read_kind : FnScope N_read_kind ["line"] (defScope s_read_kind) := ⟨rfl, rfl, rfl, by decide +kernel, rfl, by decide +kernel, by decide +kernel⟩
abbrev s_read_begin : Stmt := topS 37
abbrev N_read_begin : List Str := ["line", "up"]
theorem sc_read_begin : FnScope N_read_begin ["line"] (defScope s_read_begin) := ⟨rfl, rfl, rfl, by decide +kernel, rfl, by decide +kernel, by decide +kernel⟩
abbrev s_read_rows : Stmt := topS 38
abbrev N_read_rows : List Str := ["lines", "rows", "may_begin", "at", "line", "row", "begin", "name", "base", "own", "nothing"]
theorem sc_read_rows : FnScope N_read_rows ["lines"] (defScope s_read_rows) := ⟨rfl, rfl, rfl, by decide +kernel, rfl, by decide +kernel, by decide +kernel⟩
abbrev s_is_up : Stmt := topS 21
abbrev N_is_up : List Str := ["thing"]
theorem sc_is_up : FnScope N_is_up ["thing"] (defScope s_is_up) := ⟨rfl, rfl, rfl, by decide +kernel, rfl, by decide +kernel, by decide +kernel⟩
abbrev s_is_row : Stmt := topS 23
abbrev N_is_row : List Str := ["thing", "name", "base", "own", "begin"]
theorem sc_is_row : FnScope N_is_row ["thing"] (defScope s_is_row) := ⟨rfl, rfl, rfl, by decide +kernel, rfl, by decide +kernel, by decide +kernel⟩
abbrev s_Kind_init : Stmt := inClass (topS 24) 0
abbrev N_Kind_init : List Str := ["self", "name", "base", "own", "begin"]
theorem sc_Kind_init : FnScope N_Kind_init ["self", "name", "base", "own", "begin"] (defScope s_Kind_init) := ⟨rfl, rfl, rfl, by decide +kernel, rfl, by decide +kernel, by decide +kernel⟩
abbrev s_Part_init : Stmt := inClass (topS 22) 0
abbrev N_Part_init : List Str := ["self", "up", "guarded"]
theorem sc_Part_init : FnScope N_Part_init ["self", "up", "guarded"] (defScope s_Part_init) := ⟨rfl, rfl, rfl, by decide +kernel, rfl, by decide +kernel, by decide +kernel⟩
abbrev s_Kind_of : Stmt := inClass (topS 24) 1
abbrev N_Kind_of : List Str := ["cls", "row", "name", "base", "own", "begin"]
theorem sc_Kind_of : FnScope N_Kind_of ["cls", "row"] (defScope s_Kind_of) := ⟨rfl, rfl, rfl, by decide +kernel, rfl, by decide +kernel, by decide +kernel⟩
abbrev s_first_kind : Stmt := topS 30
abbrev N_first_kind : List Str := ["kinds", "name", "kind"]
theorem sc_first_kind : FnScope N_first_kind ["kinds", "name"] (defScope s_first_kind) := ⟨rfl, rfl, rfl, by decide +kernel, rfl, by decide +kernel, by decide +kernel⟩
abbrev s_Family_init : Stmt := inClass (topS 31) 1
abbrev N_Family_init : List Str := ["self", "maker", "kinds", "at", "kind"]
theorem sc_Family_init : FnScope N_Family_init ["self", "maker", "kinds"] (defScope s_Family_init) := ⟨rfl, rfl, rfl, by decide +kernel, rfl, by decide +kernel, by decide +kernel⟩
abbrev s_Family_of : Stmt := inClass (topS 31) 2
abbrev N_Family_of : List Str := ["cls", "maker", "kinds"]
theorem sc_Family_of : FnScope N_Family_of ["cls", "maker", "kinds"] (defScope s_Family_of) := ⟨rfl, rfl, rfl, by decide +kernel, rfl, by decide +kernel, by decide +kernel⟩
abbrev s_Maker_init : Stmt := inClass (topS 28) 1
abbrev N_Maker_init : List Str := ["self", "place", "key", "store", "stopped", "fits", "misfit", "compare", "unlike", "unready", "again", "choices", "rule", "given"]
theorem sc_Maker_init : FnScope N_Maker_init ["self", "place", "key", "store", "stopped", "fits", "misfit", "compare", "unlike", "unready", "again"] (defScope s_Maker_init) := ⟨rfl, rfl, rfl, by decide +kernel, rfl, by decide +kernel, by decide +kernel⟩
abbrev s_read_family : Stmt := topS 39
abbrev N_read_family : List Str := ["text", "lines", "choices", "at", "rule", "given", "rows", "kinds", "why", "row"]
theorem sc_read_family : FnScope N_read_family ["text"] (defScope s_read_family) := ⟨rfl, rfl, rfl, by decide +kernel, rfl, by decide +kernel, by decide +kernel⟩
abbrev s_Kind_row : Stmt := inClass (topS 24) 2
abbrev N_Kind_row : List Str := ["self"]
theorem sc_Kind_row : FnScope N_Kind_row ["self"] (defScope s_Kind_row) := ⟨rfl, rfl, rfl, by decide +kernel, rfl, by decide +kernel, by decide +kernel⟩
abbrev s_Maker_written : Stmt := inClass (topS 28) 3
abbrev N_Maker_written : List Str := ["self"]
theorem sc_Maker_written : FnScope N_Maker_written ["self"] (defScope s_Maker_written) := ⟨rfl, rfl, rfl, by decide +kernel, rfl, by decide +kernel, by decide +kernel⟩
abbrev s_show_kind : Stmt := topS 33
abbrev N_show_kind : List Str := ["kind", "line"]
theorem sc_show_kind : FnScope N_show_kind ["kind"] (defScope s_show_kind) := ⟨rfl, rfl, rfl, by decide +kernel, rfl, by decide +kernel, by decide +kernel⟩
abbrev s_show_family : Stmt := topS 34
abbrev N_show_family : List Str := ["family", "lines", "rule", "given", "kind"]
theorem sc_show_family : FnScope N_show_family ["family"] (defScope s_show_family) := ⟨rfl, rfl, rfl, by decide +kernel, rfl, by decide +kernel, by decide +kernel⟩
abbrev s_Kind_eq : Stmt := inClass (topS 24) 3
abbrev N_Kind_eq : List Str := ["self", "other"]
theorem sc_Kind_eq : FnScope N_Kind_eq ["self", "other"] (defScope s_Kind_eq) := ⟨rfl, rfl, rfl, by decide +kernel, rfl, by decide +kernel, by decide +kernel⟩
abbrev s_Maker_eq : Stmt := inClass (topS 28) 6
abbrev N_Maker_eq : List Str := ["self", "other"]
theorem sc_Maker_eq : FnScope N_Maker_eq ["self", "other"] (defScope s_Maker_eq) := ⟨rfl, rfl, rfl, by decide +kernel, rfl, by decide +kernel, by decide +kernel⟩
abbrev s_Family_eq : Stmt := inClass (topS 31) 8
abbrev N_Family_eq : List Str := ["self", "other"]
theorem sc_Family_eq : FnScope N_Family_eq ["self", "other"] (defScope s_Family_eq) := ⟨rfl, rfl, rfl, by decide +kernel, rfl, by decide +kernel, by decide +kernel⟩
abbrev s_maker : Stmt := topS 49
abbrev N_maker : List Str := ["_law_rules_here", "_law_got", "_law_row"]
theorem sc_maker : FnScope N_maker ["_law_rules_here"] (defScope s_maker) := ⟨rfl, rfl, rfl, by decide +kernel, rfl, by decide +kernel, by decide +kernel⟩
abbrev s_family : Stmt := topS 52
abbrev N_family : List Str := ["_law_rules_here", "_law_rows_here", "_law_row"]
theorem sc_family : FnScope N_family ["_law_rules_here", "_law_rows_here"] (defScope s_family) := ⟨rfl, rfl, rfl, by decide +kernel, rfl, by decide +kernel, by decide +kernel⟩
abbrev s_law : Stmt := topS 55
abbrev N_law : List Str := ["_law_script", "_law_bag_here", "_law_rules_here", "_law_rows_here", "_law_text", "_law_got", "_law_kd", "_law_row"]
theorem sc_law : FnScope N_law ["_law_script"] (defScope s_law) := ⟨rfl, rfl, rfl, by decide +kernel, rfl, by decide +kernel, by decide +kernel⟩
theorem rel_Kind_init_3_own {vs ds ms zs : List V} {us its mv ws : List Value} (r1 : Vals vs us) (r2 : Vals ds its) (r3 : Vals ms mv) (r4 : Vals zs ws) : Vals (g_Kind_init_3_own vs ds ms zs) (g_Kind_init_3_own us its mv ws) := by
  cases r1 with
  | nil => exact .nil
  | cons v0 r1 =>
   cases r1 with
   | nil => exact .nil
   | cons v1 r1 =>
    cases r1 with
    | nil => exact .nil
    | cons v2 r1 =>
     cases r1 with
     | cons _ _ => exact .nil
     | nil =>
      cases r2 with
      | nil => exact .nil
      | cons d0 r2 =>
       cases r2 with
       | cons _ _ => exact .nil
       | nil =>
        cases r3 with
        | nil => exact .nil
        | cons m0 r3 =>
         cases r3 with
         | cons _ _ => exact .nil
         | nil =>
          cases r4 with
          | nil => exact .nil
          | cons z0 r4 =>
           cases r4 with
           | cons _ _ => exact .nil
           | nil =>
            exact (.cons v0 (.cons v1 (.cons v2 (.cons z0 (.cons m0 .nil)))))
theorem relD_Kind_init_3_own {g : G} {F : Hp} {ds : List D} {vs : List V} {es : List D} {zs : List V} (h1 : ds.length = 3) (h2 : es.length = 1) (r1 : RelDs g F ds vs) (r2 : RelDs g F es zs) : RelDs g F (g_Kind_init_3_own ds [.non] [.non] es) (g_Kind_init_3_own vs [.non] [.non] zs) ∧ (g_Kind_init_3_own ds [.non] [.non] es).length = 5 := by
  cases ds with
  | nil => cases h1
  | cons qv0 ds =>
   obtain ⟨uv0, vs, rfl, v0, r1⟩ := r1.cons_inv
   cases ds with
   | nil => cases h1
   | cons qv1 ds =>
    obtain ⟨uv1, vs, rfl, v1, r1⟩ := r1.cons_inv
    cases ds with
    | nil => cases h1
    | cons qv2 ds =>
     obtain ⟨uv2, vs, rfl, v2, r1⟩ := r1.cons_inv
     cases ds with
     | cons _ _ => simp at h1
     | nil =>
      obtain rfl := r1.nil_inv
      cases es with
      | nil => cases h2
      | cons qz0 es =>
       obtain ⟨uz0, zs, rfl, z0, r2⟩ := r2.cons_inv
       cases es with
       | cons _ _ => simp at h2
       | nil =>
        obtain rfl := r2.nil_inv
        exact ⟨(.cons v0 (.cons v1 (.cons v2 (.cons z0 (.cons relD_non .nil))))), rfl⟩
theorem rel_Kind_init_3_own_begin {vs ds ms zs : List V} {us its mv ws : List Value} (r1 : Vals vs us) (r2 : Vals ds its) (r3 : Vals ms mv) (r4 : Vals zs ws) : Vals (g_Kind_init_3_own_begin vs ds ms zs) (g_Kind_init_3_own_begin us its mv ws) := by
  cases r1 with
  | nil => exact .nil
  | cons v0 r1 =>
   cases r1 with
   | nil => exact .nil
   | cons v1 r1 =>
    cases r1 with
    | nil => exact .nil
    | cons v2 r1 =>
     cases r1 with
     | cons _ _ => exact .nil
     | nil =>
      cases r2 with
      | nil => exact .nil
      | cons d0 r2 =>
       cases r2 with
       | cons _ _ => exact .nil
       | nil =>
        cases r3 with
        | cons _ _ => exact .nil
        | nil =>
         cases r4 with
         | nil => exact .nil
         | cons z0 r4 =>
          cases r4 with
          | nil => exact .nil
          | cons z1 r4 =>
           cases r4 with
           | cons _ _ => exact .nil
           | nil =>
            exact (.cons v0 (.cons v1 (.cons v2 (.cons z0 (.cons z1 .nil)))))
theorem relD_Kind_init_3_own_begin {g : G} {F : Hp} {ds : List D} {vs : List V} {es : List D} {zs : List V} (h1 : ds.length = 3) (h2 : es.length = 2) (r1 : RelDs g F ds vs) (r2 : RelDs g F es zs) : RelDs g F (g_Kind_init_3_own_begin ds [.non] [] es) (g_Kind_init_3_own_begin vs [.non] [] zs) ∧ (g_Kind_init_3_own_begin ds [.non] [] es).length = 5 := by
  cases ds with
  | nil => cases h1
  | cons qv0 ds =>
   obtain ⟨uv0, vs, rfl, v0, r1⟩ := r1.cons_inv
   cases ds with
   | nil => cases h1
   | cons qv1 ds =>
    obtain ⟨uv1, vs, rfl, v1, r1⟩ := r1.cons_inv
    cases ds with
    | nil => cases h1
    | cons qv2 ds =>
     obtain ⟨uv2, vs, rfl, v2, r1⟩ := r1.cons_inv
     cases ds with
     | cons _ _ => simp at h1
     | nil =>
      obtain rfl := r1.nil_inv
      cases es with
      | nil => cases h2
      | cons qz0 es =>
       obtain ⟨uz0, zs, rfl, z0, r2⟩ := r2.cons_inv
       cases es with
       | nil => cases h2
       | cons qz1 es =>
        obtain ⟨uz1, zs, rfl, z1, r2⟩ := r2.cons_inv
        cases es with
        | cons _ _ => simp at h2
        | nil =>
         obtain rfl := r2.nil_inv
         exact ⟨(.cons v0 (.cons v1 (.cons v2 (.cons z0 (.cons z1 .nil))))), rfl⟩
theorem rel_Part_init_2_guarded {vs ds ms zs : List V} {us its mv ws : List Value} (r1 : Vals vs us) (r2 : Vals ds its) (r3 : Vals ms mv) (r4 : Vals zs ws) : Vals (g_Part_init_2_guarded vs ds ms zs) (g_Part_init_2_guarded us its mv ws) := by
  cases r1 with
  | nil => exact .nil
  | cons v0 r1 =>
   cases r1 with
   | nil => exact .nil
   | cons v1 r1 =>
    cases r1 with
    | cons _ _ => exact .nil
    | nil =>
     cases r2 with
     | nil => exact .nil
     | cons d0 r2 =>
      cases r2 with
      | cons _ _ => exact .nil
      | nil =>
       cases r3 with
       | cons _ _ => exact .nil
       | nil =>
        cases r4 with
        | nil => exact .nil
        | cons z0 r4 =>
         cases r4 with
         | cons _ _ => exact .nil
         | nil =>
          exact (.cons v0 (.cons v1 (.cons z0 .nil)))
theorem relD_Part_init_2_guarded {g : G} {F : Hp} {ds : List D} {vs : List V} {es : List D} {zs : List V} (h1 : ds.length = 2) (h2 : es.length = 1) (r1 : RelDs g F ds vs) (r2 : RelDs g F es zs) : RelDs g F (g_Part_init_2_guarded ds [.str "first"] [] es) (g_Part_init_2_guarded vs [.str "first"] [] zs) ∧ (g_Part_init_2_guarded ds [.str "first"] [] es).length = 3 := by
  cases ds with
  | nil => cases h1
  | cons qv0 ds =>
   obtain ⟨uv0, vs, rfl, v0, r1⟩ := r1.cons_inv
   cases ds with
   | nil => cases h1
   | cons qv1 ds =>
    obtain ⟨uv1, vs, rfl, v1, r1⟩ := r1.cons_inv
    cases ds with
    | cons _ _ => simp at h1
    | nil =>
     obtain rfl := r1.nil_inv
     cases es with
     | nil => cases h2
     | cons qz0 es =>
      obtain ⟨uz0, zs, rfl, z0, r2⟩ := r2.cons_inv
      cases es with
      | cons _ _ => simp at h2
      | nil =>
       obtain rfl := r2.nil_inv
       exact ⟨(.cons v0 (.cons v1 (.cons z0 .nil))), rfl⟩
theorem rel_Maker_init_1_place_key_store_stopped_fits_misfit_compare_unlike_unready_again {vs ds ms zs : List V} {us its mv ws : List Value} (r1 : Vals vs us) (r2 : Vals ds its) (r3 : Vals ms mv) (r4 : Vals zs ws) : Vals (g_Maker_init_1_place_key_store_stopped_fits_misfit_compare_unlike_unready_again vs ds ms zs) (g_Maker_init_1_place_key_store_stopped_fits_misfit_compare_unlike_unready_again us its mv ws) := by
  cases r1 with
  | nil => exact .nil
  | cons v0 r1 =>
   cases r1 with
   | cons _ _ => exact .nil
   | nil =>
    cases r2 with
    | cons _ _ => exact .nil
    | nil =>
     cases r3 with
     | cons _ _ => exact .nil
     | nil =>
      cases r4 with
      | nil => exact .nil
      | cons z0 r4 =>
       cases r4 with
       | nil => exact .nil
       | cons z1 r4 =>
        cases r4 with
        | nil => exact .nil
        | cons z2 r4 =>
         cases r4 with
         | nil => exact .nil
         | cons z3 r4 =>
          cases r4 with
          | nil => exact .nil
          | cons z4 r4 =>
           cases r4 with
           | nil => exact .nil
           | cons z5 r4 =>
            cases r4 with
            | nil => exact .nil
            | cons z6 r4 =>
             cases r4 with
             | nil => exact .nil
             | cons z7 r4 =>
              cases r4 with
              | nil => exact .nil
              | cons z8 r4 =>
               cases r4 with
               | nil => exact .nil
               | cons z9 r4 =>
                cases r4 with
                | cons _ _ => exact .nil
                | nil =>
                 exact (.cons v0 (.cons z0 (.cons z1 (.cons z2 (.cons z3 (.cons z4 (.cons z5 (.cons z6 (.cons z7 (.cons z8 (.cons z9 .nil)))))))))))
theorem relD_Maker_init_1_place_key_store_stopped_fits_misfit_compare_unlike_unready_again {g : G} {F : Hp} {ds : List D} {vs : List V} {es : List D} {zs : List V} (h1 : ds.length = 1) (h2 : es.length = 10) (r1 : RelDs g F ds vs) (r2 : RelDs g F es zs) : RelDs g F (g_Maker_init_1_place_key_store_stopped_fits_misfit_compare_unlike_unready_again ds [] [] es) (g_Maker_init_1_place_key_store_stopped_fits_misfit_compare_unlike_unready_again vs [] [] zs) ∧ (g_Maker_init_1_place_key_store_stopped_fits_misfit_compare_unlike_unready_again ds [] [] es).length = 11 := by
  cases ds with
  | nil => cases h1
  | cons qv0 ds =>
   obtain ⟨uv0, vs, rfl, v0, r1⟩ := r1.cons_inv
   cases ds with
   | cons _ _ => simp at h1
   | nil =>
    obtain rfl := r1.nil_inv
    cases es with
    | nil => cases h2
    | cons qz0 es =>
     obtain ⟨uz0, zs, rfl, z0, r2⟩ := r2.cons_inv
     cases es with
     | nil => cases h2
     | cons qz1 es =>
      obtain ⟨uz1, zs, rfl, z1, r2⟩ := r2.cons_inv
      cases es with
      | nil => cases h2
      | cons qz2 es =>
       obtain ⟨uz2, zs, rfl, z2, r2⟩ := r2.cons_inv
       cases es with
       | nil => cases h2
       | cons qz3 es =>
        obtain ⟨uz3, zs, rfl, z3, r2⟩ := r2.cons_inv
        cases es with
        | nil => cases h2
        | cons qz4 es =>
         obtain ⟨uz4, zs, rfl, z4, r2⟩ := r2.cons_inv
         cases es with
         | nil => cases h2
         | cons qz5 es =>
          obtain ⟨uz5, zs, rfl, z5, r2⟩ := r2.cons_inv
          cases es with
          | nil => cases h2
          | cons qz6 es =>
           obtain ⟨uz6, zs, rfl, z6, r2⟩ := r2.cons_inv
           cases es with
           | nil => cases h2
           | cons qz7 es =>
            obtain ⟨uz7, zs, rfl, z7, r2⟩ := r2.cons_inv
            cases es with
            | nil => cases h2
            | cons qz8 es =>
             obtain ⟨uz8, zs, rfl, z8, r2⟩ := r2.cons_inv
             cases es with
             | nil => cases h2
             | cons qz9 es =>
              obtain ⟨uz9, zs, rfl, z9, r2⟩ := r2.cons_inv
              cases es with
              | cons _ _ => simp at h2
              | nil =>
               obtain rfl := r2.nil_inv
               exact ⟨(.cons v0 (.cons z0 (.cons z1 (.cons z2 (.cons z3 (.cons z4 (.cons z5 (.cons z6 (.cons z7 (.cons z8 (.cons z9 .nil))))))))))), rfl⟩
structure Ad where
  d_bag : FuncData
  d_table : FuncData
  d_mixed : FuncData
  d_draw : FuncData
  d_rules : FuncData
  d_word : FuncData
  d_short : FuncData
  d_fresh : FuncData
  d_begin : FuncData
  d_rows : FuncData
  d_many : FuncData
  d_shown : FuncData
  d_is_choice : FuncData
  d_read_rule : FuncData
  d_is_name : FuncData
  d_read_kind : FuncData
  d_read_begin : FuncData
  d_read_rows : FuncData
  d_is_up : FuncData
  d_is_row : FuncData
  d_Kind_init : FuncData
  h_Kind_init_3_own : List Value → List Value → List Value
  h_Kind_init_3_own_begin : List Value → List Value → List Value
  d_Part_init : FuncData
  h_Part_init_2_guarded : List Value → List Value → List Value
  d_Kind_of : FuncData
  d_first_kind : FuncData
  d_Family_init : FuncData
  d_Family_of : FuncData
  d_Maker_init : FuncData
  h_Maker_init_1_place_key_store_stopped_fits_misfit_compare_unlike_unready_again : List Value → List Value → List Value
  d_read_family : FuncData
  d_Kind_row : FuncData
  d_Maker_written : FuncData
  d_show_kind : FuncData
  d_show_family : FuncData
  d_Kind_eq : FuncData
  d_Maker_eq : FuncData
  d_Family_eq : FuncData
  d_maker : FuncData
  d_family : FuncData
  d_law : FuncData
  t_LETTERS : Tok
  t_MOST_LETTERS : Tok
  cu_Family_MOST_KINDS : Value
  cx_Family_MOST_KINDS : V
  cu_Maker_RULES : Value
  cx_Maker_RULES : V
structure Tx (g : G) (w : World) (mg : Str → Option Value) (ad : Ad) : Prop where
  F_bag : FunD g.K "_law_bag" "_law_bag" (defArgs s_bag) (defBody s_bag) (defScope s_bag) [] [] (He.ga g.K "_law_bag") ad.d_bag
  g_bag : mg "_law_bag" = some (.ref (He.ga g.K "_law_bag"))
  b_bag_1 : Binds g.K ad.d_bag ["_law_script"] []
  F_table : FunD g.K "_law_table" "_law_table" (defArgs s_table) (defBody s_table) (defScope s_table) [] [] (He.ga g.K "_law_table") ad.d_table
  g_table : mg "_law_table" = some (.ref (He.ga g.K "_law_table"))
  b_table_0 : Binds g.K ad.d_table [] []
  F_mixed : FunD g.K "_law_mixed" "_law_mixed" (defArgs s_mixed) (defBody s_mixed) (defScope s_mixed) [] [] (He.ga g.K "_law_mixed") ad.d_mixed
  g_mixed : mg "_law_mixed" = some (.ref (He.ga g.K "_law_mixed"))
  b_mixed_2 : Binds g.K ad.d_mixed ["_law_seed", "_law_count"] []
  F_draw : FunD g.K "_law_draw" "_law_draw" (defArgs s_draw) (defBody s_draw) (defScope s_draw) [] [] (He.ga g.K "_law_draw") ad.d_draw
  g_draw : mg "_law_draw" = some (.ref (He.ga g.K "_law_draw"))
  b_draw_2 : Binds g.K ad.d_draw ["_law_bag_here", "_law_limit"] []
  F_rules : FunD g.K "_law_rules" "_law_rules" (defArgs s_rules) (defBody s_rules) (defScope s_rules) [] [] (He.ga g.K "_law_rules") ad.d_rules
  g_rules : mg "_law_rules" = some (.ref (He.ga g.K "_law_rules"))
  b_rules_1 : Binds g.K ad.d_rules ["_law_bag_here"] []
  F_word : FunD g.K "_law_word" "_law_word" (defArgs s_word) (defBody s_word) (defScope s_word) [] [] (He.ga g.K "_law_word") ad.d_word
  g_word : mg "_law_word" = some (.ref (He.ga g.K "_law_word"))
  b_word_1 : Binds g.K ad.d_word ["_law_bag_here"] []
  F_short : FunD g.K "_law_short" "_law_short" (defArgs s_short) (defBody s_short) (defScope s_short) [] [] (He.ga g.K "_law_short") ad.d_short
  g_short : mg "_law_short" = some (.ref (He.ga g.K "_law_short"))
  b_short_1 : Binds g.K ad.d_short ["_law_bag_here"] []
  F_fresh : FunD g.K "_law_fresh" "_law_fresh" (defArgs s_fresh) (defBody s_fresh) (defScope s_fresh) [] [] (He.ga g.K "_law_fresh") ad.d_fresh
  g_fresh : mg "_law_fresh" = some (.ref (He.ga g.K "_law_fresh"))
  b_fresh_2 : Binds g.K ad.d_fresh ["_law_bag_here", "_law_taken"] []
  F_begin : FunD g.K "_law_begin" "_law_begin" (defArgs s_begin) (defBody s_begin) (defScope s_begin) [] [] (He.ga g.K "_law_begin") ad.d_begin
  g_begin : mg "_law_begin" = some (.ref (He.ga g.K "_law_begin"))
  b_begin_1 : Binds g.K ad.d_begin ["_law_bag_here"] []
  F_rows : FunD g.K "_law_rows" "_law_rows" (defArgs s_rows) (defBody s_rows) (defScope s_rows) [] [] (He.ga g.K "_law_rows") ad.d_rows
  g_rows : mg "_law_rows" = some (.ref (He.ga g.K "_law_rows"))
  b_rows_2 : Binds g.K ad.d_rows ["_law_bag_here", "_law_many_here"] []
  F_many : FunD g.K "_law_many" "_law_many" (defArgs s_many) (defBody s_many) (defScope s_many) [] [] (He.ga g.K "_law_many") ad.d_many
  g_many : mg "_law_many" = some (.ref (He.ga g.K "_law_many"))
  b_many_1 : Binds g.K ad.d_many ["_law_bag_here"] []
  F_shown : FunD g.K "_law_shown" "_law_shown" (defArgs s_shown) (defBody s_shown) (defScope s_shown) [] [] (He.ga g.K "_law_shown") ad.d_shown
  g_shown : mg "_law_shown" = some (.ref (He.ga g.K "_law_shown"))
  b_shown_2 : Binds g.K ad.d_shown ["_law_rules_here", "_law_rows_here"] []
  F_is_choice : FunD g.K "is_choice" "is_choice" (defArgs s_is_choice) (defBody s_is_choice) (defScope s_is_choice) [] [] (He.ga g.K "is_choice") ad.d_is_choice
  g_is_choice : mg "is_choice" = some (.ref (He.ga g.K "is_choice"))
  b_is_choice_2 : Binds g.K ad.d_is_choice ["rule", "given"] []
  F_read_rule : FunD g.K "read_rule" "read_rule" (defArgs s_read_rule) (defBody s_read_rule) (defScope s_read_rule) [] [] (He.ga g.K "read_rule") ad.d_read_rule
  g_read_rule : mg "read_rule" = some (.ref (He.ga g.K "read_rule"))
  b_read_rule_2 : Binds g.K ad.d_read_rule ["rule", "line"] []
  F_is_name : FunD g.K "is_name" "is_name" (defArgs s_is_name) (defBody s_is_name) (defScope s_is_name) [] [] (He.ga g.K "is_name") ad.d_is_name
  g_is_name : mg "is_name" = some (.ref (He.ga g.K "is_name"))
  b_is_name_1 : Binds g.K ad.d_is_name ["thing"] []
  F_read_kind : FunD g.K "read_kind" "read_kind" (defArgs s_read_kind) (defBody s_read_kind) (defScope s_read_kind) [] [] (He.ga g.K "read_kind") ad.d_read_kind
  g_read_kind : mg "read_kind" = some (.ref (He.ga g.K "read_kind"))
  b_read_kind_1 : Binds g.K ad.d_read_kind ["line"] []
  F_read_begin : FunD g.K "read_begin" "read_begin" (defArgs s_read_begin) (defBody s_read_begin) (defScope s_read_begin) [] [] (He.ga g.K "read_begin") ad.d_read_begin
  g_read_begin : mg "read_begin" = some (.ref (He.ga g.K "read_begin"))
  b_read_begin_1 : Binds g.K ad.d_read_begin ["line"] []
  F_read_rows : FunD g.K "read_rows" "read_rows" (defArgs s_read_rows) (defBody s_read_rows) (defScope s_read_rows) [] [] (He.ga g.K "read_rows") ad.d_read_rows
  g_read_rows : mg "read_rows" = some (.ref (He.ga g.K "read_rows"))
  b_read_rows_1 : Binds g.K ad.d_read_rows ["lines"] []
  F_is_up : FunD g.K "is_up" "is_up" (defArgs s_is_up) (defBody s_is_up) (defScope s_is_up) [] [] (He.ga g.K "is_up") ad.d_is_up
  g_is_up : mg "is_up" = some (.ref (He.ga g.K "is_up"))
  b_is_up_1 : Binds g.K ad.d_is_up ["thing"] []
  F_is_row : FunD g.K "is_row" "is_row" (defArgs s_is_row) (defBody s_is_row) (defScope s_is_row) [] [] (He.ga g.K "is_row") ad.d_is_row
  g_is_row : mg "is_row" = some (.ref (He.ga g.K "is_row"))
  b_is_row_1 : Binds g.K ad.d_is_row ["thing"] []
  F_Kind_init : FunD g.K "__init__" "Kind.__init__" (defArgs s_Kind_init) (defBody s_Kind_init) (defScope s_Kind_init) [.non] [("own", .bl false), ("begin", .non)] (He.ma g.K (He.ga g.K "Kind") "__init__") ad.d_Kind_init
  m_Kind_init : Meth g.K (g.cl "Kind") "__init__" (He.ma g.K (He.ga g.K "Kind") "__init__")
  kb_Kind_init_3_own : KBn g.K ad.d_Kind_init ["self", "name", "base", "own", "begin"] 3 ["own"] ad.h_Kind_init_3_own (fun vs zs => g_Kind_init_3_own vs [.non] [.non] zs)
  kb_Kind_init_3_own_begin : KBn g.K ad.d_Kind_init ["self", "name", "base", "own", "begin"] 3 ["own", "begin"] ad.h_Kind_init_3_own_begin (fun vs zs => g_Kind_init_3_own_begin vs [.non] [] zs)
  F_Part_init : FunD g.K "__init__" "Part.__init__" (defArgs s_Part_init) (defBody s_Part_init) (defScope s_Part_init) [.str "first"] [("guarded", .bl false)] (He.ma g.K (He.ga g.K "Part") "__init__") ad.d_Part_init
  m_Part_init : Meth g.K (g.cl "Part") "__init__" (He.ma g.K (He.ga g.K "Part") "__init__")
  kb_Part_init_2_guarded : KBn g.K ad.d_Part_init ["self", "up", "guarded"] 2 ["guarded"] ad.h_Part_init_2_guarded (fun vs zs => g_Part_init_2_guarded vs [.str "first"] [] zs)
  F_Kind_of : FunD g.K "of" "Kind.of" (defArgs s_Kind_of) (defBody s_Kind_of) (defScope s_Kind_of) [] [] (cmAd g.K "Kind" "of") ad.d_Kind_of
  cm_Kind_of : ClX.CMet g.K (g.cl "Kind") (.type "type") "of" (He.ma g.K (He.ga g.K "Kind") "of") (cmAd g.K "Kind" "of")
  b_Kind_of_2 : Binds g.K ad.d_Kind_of ["cls", "row"] []
  F_first_kind : FunD g.K "first_kind" "first_kind" (defArgs s_first_kind) (defBody s_first_kind) (defScope s_first_kind) [] [] (He.ga g.K "first_kind") ad.d_first_kind
  g_first_kind : mg "first_kind" = some (.ref (He.ga g.K "first_kind"))
  b_first_kind_2 : Binds g.K ad.d_first_kind ["kinds", "name"] []
  F_Family_init : FunD g.K "__init__" "Family.__init__" (defArgs s_Family_init) (defBody s_Family_init) (defScope s_Family_init) [] [] (He.ma g.K (He.ga g.K "Family") "__init__") ad.d_Family_init
  m_Family_init : Meth g.K (g.cl "Family") "__init__" (He.ma g.K (He.ga g.K "Family") "__init__")
  F_Family_of : FunD g.K "of" "Family.of" (defArgs s_Family_of) (defBody s_Family_of) (defScope s_Family_of) [] [] (cmAd g.K "Family" "of") ad.d_Family_of
  cm_Family_of : ClX.CMet g.K (g.cl "Family") (.type "type") "of" (He.ma g.K (He.ga g.K "Family") "of") (cmAd g.K "Family" "of")
  b_Family_of_3 : Binds g.K ad.d_Family_of ["cls", "maker", "kinds"] []
  F_Maker_init : FunD g.K "__init__" "Maker.__init__" (defArgs s_Maker_init) (defBody s_Maker_init) (defScope s_Maker_init) [] [("place", .str "here"), ("key", .str "none"), ("store", .str "ahead"), ("stopped", .str "leave"), ("fits", .str "any"), ("misfit", .str "anew"), ("compare", .str "never"), ("unlike", .str "anew"), ("unready", .str "give"), ("again", .str "yes")] (He.ma g.K (He.ga g.K "Maker") "__init__") ad.d_Maker_init
  m_Maker_init : Meth g.K (g.cl "Maker") "__init__" (He.ma g.K (He.ga g.K "Maker") "__init__")
  kb_Maker_init_1_place_key_store_stopped_fits_misfit_compare_unlike_unready_again : KBn g.K ad.d_Maker_init ["self", "place", "key", "store", "stopped", "fits", "misfit", "compare", "unlike", "unready", "again"] 1 ["place", "key", "store", "stopped", "fits", "misfit", "compare", "unlike", "unready", "again"] ad.h_Maker_init_1_place_key_store_stopped_fits_misfit_compare_unlike_unready_again (fun vs zs => g_Maker_init_1_place_key_store_stopped_fits_misfit_compare_unlike_unready_again vs [] [] zs)
  F_read_family : FunD g.K "read_family" "read_family" (defArgs s_read_family) (defBody s_read_family) (defScope s_read_family) [] [] (He.ga g.K "read_family") ad.d_read_family
  g_read_family : mg "read_family" = some (.ref (He.ga g.K "read_family"))
  b_read_family_1 : Binds g.K ad.d_read_family ["text"] []
  F_Kind_row : FunD g.K "row" "Kind.row" (defArgs s_Kind_row) (defBody s_Kind_row) (defScope s_Kind_row) [] [] (He.ma g.K (He.ga g.K "Kind") "row") ad.d_Kind_row
  m_Kind_row : Meth g.K (g.cl "Kind") "row" (He.ma g.K (He.ga g.K "Kind") "row")
  b_Kind_row_1 : Binds g.K ad.d_Kind_row ["self"] []
  F_Maker_written : FunD g.K "written" "Maker.written" (defArgs s_Maker_written) (defBody s_Maker_written) (defScope s_Maker_written) [] [] (He.ma g.K (He.ga g.K "Maker") "written") ad.d_Maker_written
  m_Maker_written : Meth g.K (g.cl "Maker") "written" (He.ma g.K (He.ga g.K "Maker") "written")
  b_Maker_written_1 : Binds g.K ad.d_Maker_written ["self"] []
  F_show_kind : FunD g.K "show_kind" "show_kind" (defArgs s_show_kind) (defBody s_show_kind) (defScope s_show_kind) [] [] (He.ga g.K "show_kind") ad.d_show_kind
  g_show_kind : mg "show_kind" = some (.ref (He.ga g.K "show_kind"))
  b_show_kind_1 : Binds g.K ad.d_show_kind ["kind"] []
  F_show_family : FunD g.K "show_family" "show_family" (defArgs s_show_family) (defBody s_show_family) (defScope s_show_family) [] [] (He.ga g.K "show_family") ad.d_show_family
  g_show_family : mg "show_family" = some (.ref (He.ga g.K "show_family"))
  b_show_family_1 : Binds g.K ad.d_show_family ["family"] []
  F_Kind_eq : FunD g.K "__eq__" "Kind.__eq__" (defArgs s_Kind_eq) (defBody s_Kind_eq) (defScope s_Kind_eq) [] [] (He.ma g.K (He.ga g.K "Kind") "__eq__") ad.d_Kind_eq
  m_Kind_eq : Meth g.K (g.cl "Kind") "__eq__" (He.ma g.K (He.ga g.K "Kind") "__eq__")
  b_Kind_eq_2 : Binds g.K ad.d_Kind_eq ["self", "other"] []
  F_Maker_eq : FunD g.K "__eq__" "Maker.__eq__" (defArgs s_Maker_eq) (defBody s_Maker_eq) (defScope s_Maker_eq) [] [] (He.ma g.K (He.ga g.K "Maker") "__eq__") ad.d_Maker_eq
  m_Maker_eq : Meth g.K (g.cl "Maker") "__eq__" (He.ma g.K (He.ga g.K "Maker") "__eq__")
  b_Maker_eq_2 : Binds g.K ad.d_Maker_eq ["self", "other"] []
  F_Family_eq : FunD g.K "__eq__" "Family.__eq__" (defArgs s_Family_eq) (defBody s_Family_eq) (defScope s_Family_eq) [] [] (He.ma g.K (He.ga g.K "Family") "__eq__") ad.d_Family_eq
  m_Family_eq : Meth g.K (g.cl "Family") "__eq__" (He.ma g.K (He.ga g.K "Family") "__eq__")
  b_Family_eq_2 : Binds g.K ad.d_Family_eq ["self", "other"] []
  F_maker : FunD g.K "_law_maker" "_law_maker" (defArgs s_maker) (defBody s_maker) (defScope s_maker) [] [] (He.ga g.K "_law_maker") ad.d_maker
  g_maker : mg "_law_maker" = some (.ref (He.ga g.K "_law_maker"))
  b_maker_1 : Binds g.K ad.d_maker ["_law_rules_here"] []
  F_family : FunD g.K "_law_family" "_law_family" (defArgs s_family) (defBody s_family) (defScope s_family) [] [] (He.ga g.K "_law_family") ad.d_family
  g_family : mg "_law_family" = some (.ref (He.ga g.K "_law_family"))
  b_family_2 : Binds g.K ad.d_family ["_law_rules_here", "_law_rows_here"] []
  F_law : FunD g.K "law" "law" (defArgs s_law) (defBody s_law) (defScope s_law) [] [] (He.ga g.K "law") ad.d_law
  g_law : mg "law" = some (.ref (He.ga g.K "law"))
  cl_Maker : Cls g.K (g.cl "Maker")
  g_Maker : mg "Maker" = some (.ref (g.cl "Maker"))
  n_Maker_place : NoAttr g.K (g.cl "Maker") "place"
  n_Maker_key : NoAttr g.K (g.cl "Maker") "key"
  n_Maker_store : NoAttr g.K (g.cl "Maker") "store"
  n_Maker_stopped : NoAttr g.K (g.cl "Maker") "stopped"
  n_Maker_fits : NoAttr g.K (g.cl "Maker") "fits"
  n_Maker_misfit : NoAttr g.K (g.cl "Maker") "misfit"
  n_Maker_compare : NoAttr g.K (g.cl "Maker") "compare"
  n_Maker_unlike : NoAttr g.K (g.cl "Maker") "unlike"
  n_Maker_unready : NoAttr g.K (g.cl "Maker") "unready"
  n_Maker_again : NoAttr g.K (g.cl "Maker") "again"
  mk_Maker : Mk g.K (g.cl "Maker") (He.ma g.K (He.ga g.K "Maker") "__init__")
  cr_Maker : ClX.CRead g.K (g.cl "Maker") (.type "type")
  cl_Kind : Cls g.K (g.cl "Kind")
  g_Kind : mg "Kind" = some (.ref (g.cl "Kind"))
  n_Kind_name : NoAttr g.K (g.cl "Kind") "name"
  n_Kind_base : NoAttr g.K (g.cl "Kind") "base"
  n_Kind_own : NoAttr g.K (g.cl "Kind") "own"
  n_Kind_begin : NoAttr g.K (g.cl "Kind") "begin"
  mk_Kind : Mk g.K (g.cl "Kind") (He.ma g.K (He.ga g.K "Kind") "__init__")
  cr_Kind : ClX.CRead g.K (g.cl "Kind") (.type "type")
  cl_Part : Cls g.K (g.cl "Part")
  g_Part : mg "Part" = some (.ref (g.cl "Part"))
  n_Part_up : NoAttr g.K (g.cl "Part") "up"
  n_Part_guarded : NoAttr g.K (g.cl "Part") "guarded"
  mk_Part : Mk g.K (g.cl "Part") (He.ma g.K (He.ga g.K "Part") "__init__")
  cl_Family : Cls g.K (g.cl "Family")
  g_Family : mg "Family" = some (.ref (g.cl "Family"))
  n_Family_maker : NoAttr g.K (g.cl "Family") "maker"
  n_Family_kinds : NoAttr g.K (g.cl "Family") "kinds"
  mk_Family : Mk g.K (g.cl "Family") (He.ma g.K (He.ga g.K "Family") "__init__")
  cr_Family : ClX.CRead g.K (g.cl "Family") (.type "type")
  g_OneError : mg "OneError" = some (.ref (g.cl "OneError"))
  exs : ∀ c1 c2 b, subT2 exT c1 c2 = some b → PySem.W.exmOne g.K (.ref (g.cl c1)) (.ref (g.cl c2)) = some b
  own : OwnTy g ownC
  c_LETTERS : mg "LETTERS" = some (.str "abcdefghijklmnopqrstuvwxyz" ad.t_LETTERS)
  c_MOST_LETTERS : mg "MOST_LETTERS" = some (.int 8 ad.t_MOST_LETTERS)
  c_UPS : mg "UPS" = some (.ref (He.ga g.K "UPS"))
  w_UPS : ∀ F, RelD g F DL.c_UPS (.ref (He.ga g.K "UPS"))
  c_CHOICES : mg "CHOICES" = some (.ref (g.cs "CHOICES"))
  t_CHOICES : TabOk g w "CHOICES" DL.t_CHOICES
  eq_Family : EqC g ownC "Family" (He.ma g.K (He.ga g.K "Family") "__eq__")
  eq_Kind : EqC g ownC "Kind" (He.ma g.K (He.ga g.K "Kind") "__eq__")
  eq_Maker : EqC g ownC "Maker" (He.ma g.K (He.ga g.K "Maker") "__eq__")
  cv_Family_MOST_KINDS : ClX.CVal g.K (g.cl "Family") (.type "type") "MOST_KINDS" ad.cx_Family_MOST_KINDS ad.cu_Family_MOST_KINDS
  cw_Family_MOST_KINDS : ∀ F, RelD g F cc_Family_MOST_KINDS ad.cx_Family_MOST_KINDS
  cv_Maker_RULES : ClX.CVal g.K (g.cl "Maker") (.type "type") "RULES" ad.cx_Maker_RULES ad.cu_Maker_RULES
  cw_Maker_RULES : ∀ F, RelD g F cc_Maker_RULES ad.cx_Maker_RULES
  z_bool : mg "bool" = none
  z_enumerate : mg "enumerate" = none
  z_int : mg "int" = none
  z_isinstance : mg "isinstance" = none
  z_len : mg "len" = none
  z_list : mg "list" = none
  z_range : mg "range" = none
  z_str : mg "str" = none
  z_tuple : mg "tuple" = none
  z_zip : mg "zip" = none
end DL
namespace DL
open PySem L2
section
variable {P : Program} {w : World} {mg : Str → Option Value} {base : Heap} {ad : Ad} {g : G}
def sp_bag (K : PySem.W.Frag) : Sp := fun vs H Q _ => ∃ (a : Addr) (ns : List Int), vs = [.ref a] ∧ SqL K H a (ns.map V.int) ∧ ∀ (c b : Addr) (sd : Int), H c = none → b ≠ c → H b = none → Q (.ref b) (upd (upd H c (.lst (ns.map V.int))) b (.lst [.ref c, .int sd, .int 0, .int 0, .int 0, .int 0]))
theorem ok_bag0 (T : Tx g w mg ad) : FnOk P w g.K mg base CX0 1 (He.ga g.K "_law_bag") ad.d_bag ["_law_script"] (sp_bag g.K) := by
  refine okD0 T.F_bag sc_bag (fun vs H Q E h => ?_) (fun cdv A outer s H vs Q E hr h => ?_)
  · obtain ⟨a, ns, rfl, _⟩ := h; rfl
  · obtain ⟨a, ns, rfl, hS, k⟩ := h
    refine ⟨_, (pss_cons (ps_set (i := 1) sc_bag.nd rfl (Or.inl rfl) pe_int) (pss_cons (ps_for PassesOwn.never rfl (pi_list (pv 0)) (pg_name (i := 2) sc_bag.nd rfl (Or.inl rfl)) (pss_one (ps_set (i := 1) sc_bag.nd rfl (Or.inl rfl) (pe_op op_mod (pe_callTy call_int1 (by rfl) T.z_int (by decide +kernel) (pa_cons (pe_op op_add (pe_op op_mul (pv 1) pe_int) (pv 2)) pa_nil)) pe_int)))) (pss_one (ps_ret (pe_lst (pa_cons (pe_callTy call_list_of (by rfl) T.z_list (by decide +kernel) (pa_cons (pv 0) pa_nil)) (pa_cons (pv 1) (pa_cons pe_int (pa_cons pe_int (pa_cons pe_int (pa_cons pe_int pa_nil))))))))))), ?_⟩
    refine ⟨_, rfl, a, rfl, ⟨_, hS⟩, for_list (K := g.K) (a := a) (xs := ns.map V.int) (fun i σ H' => H' = H ∧ ∃ (sd : Int) (c : Option V), σ = [some (.ref a), some (.int sd), c]) ⟨rfl, 7, none, rfl⟩ (fun i σ H' _ h => by rw [h.1]; exact hS) ?_ ?_⟩
    · rintro i x σ H' hi ⟨rfl, sd, c, rfl⟩
      obtain ⟨n, _, rfl⟩ := List.mem_map.mp (List.mem_of_getElem? hi)
      refine ⟨_, rfl, _, _, rfl, rfl, .inr ⟨by decide, by decide⟩, _, rfl, _, _, rfl, rfl, .inl ⟨_, rfl, _, _, rfl, rfl, (show (0 : Int) < 2147483647 by decide), ?_⟩⟩
      exact ⟨rfl, _, _, rfl⟩
    · rintro σ H' ⟨rfl, sd, c, rfl⟩
      refine ⟨_, rfl, a, _, rfl, .inl hS, fun c nc => ⟨_, rfl, (by show 6 ≤ sizeLine; decide), fun b nb => ?_⟩⟩
      obtain ⟨e, nb⟩ := DL.upd_none nb
      exact k c b sd nc e nb
theorem ok_bag (T : Tx g w mg ad) : FnOk P w g.K mg base (L2.CX P w) 1 (He.ga g.K "_law_bag") ad.d_bag ["_law_script"] (spD g 1 bagF) := by
  refine FnOk.imp (FnOk.up (ok_bag0 T)) fun vs H Q E h => ?_
  obtain ⟨Z, F, st, ds, hl, sim, r, rfl, q⟩ := h
  obtain ⟨v1, r1, rfl, rv1, r⟩ := r.cons_inv
  rw [r.nil_inv]
  unfold RelD at rv1
  obtain ⟨a, ns, rfl, hS⟩ := rv1
  refine ⟨a, ns, rfl, sim.same.seq hS, fun c b sd nc e nb => ?_⟩
  obtain ⟨nFc, nSc⟩ := sim.free nc
  obtain ⟨nFb, nSb⟩ := sim.free nb
  have s1 : Sim g Z (st.set c .raw) F (upd H c (.lst (ns.map V.int))) := sim.put nFc (.inl nc) ⟨ns, upd_same⟩
  have s2 : Sim g Z ((st.set c .raw).set b (.bag c)) F (upd (upd H c (.lst (ns.map V.int))) b (.lst [.ref c, .int sd, .int 0, .int 0, .int 0, .int 0])) :=
    s1.put nFb (.inl (DL.none_upd e nb)) ⟨by rw [S.set_ne (Ne.symm e), S.set_same], sd, 0, 0, 0, 0, upd_same, by decide⟩
  exact q b c e nSb nSc _ F _ (Same.refl _) s2 relD_ref

theorem cal_bag_1 (T : Tx g w mg ad) : Cal g P w g.K mg base 1 (He.ga g.K "_law_bag") [] f_bag_1 :=
  cal_pos (ok_bag T) T.b_bag_1 .nil (fun _ => .nil) rfl
end
end DL
namespace DL
open PySem L2
section
variable {P : Program} {w : World} {mg : Str → Option Value} {base : Heap} {ad : Ad} {g : G}
theorem ok_table (T : Tx g w mg ad) : FnOk P w g.K mg base (L2.CX P w) 1 (He.ga g.K "_law_table") ad.d_table [] (spD g 0 d_table) :=
  fn_okD T.F_table sc_table rfl fun cdv A outer s H E hr tk => (fb_one (fs_ret (fe_lst (fa_cons (fe_tup (fa_cons fe_str (fa_cons (fe_tup (fa_cons fe_str (fa_cons fe_str (fa_cons fe_str (fa_cons fe_str fa_nil))))) fa_nil))) (fa_cons (fe_tup (fa_cons fe_str (fa_cons (fe_tup (fa_cons fe_str (fa_cons fe_str (fa_cons fe_str (fa_cons fe_str fa_nil))))) fa_nil))) (fa_cons (fe_tup (fa_cons fe_str (fa_cons (fe_tup (fa_cons fe_str (fa_cons fe_str (fa_cons fe_str fa_nil)))) fa_nil))) (fa_cons (fe_tup (fa_cons fe_str (fa_cons (fe_tup (fa_cons fe_str (fa_cons fe_str fa_nil))) fa_nil))) (fa_cons (fe_tup (fa_cons fe_str (fa_cons (fe_tup (fa_cons fe_str (fa_cons fe_str (fa_cons fe_str fa_nil)))) fa_nil))) (fa_cons (fe_tup (fa_cons fe_str (fa_cons (fe_tup (fa_cons fe_str (fa_cons fe_str fa_nil))) fa_nil))) (fa_cons (fe_tup (fa_cons fe_str (fa_cons (fe_tup (fa_cons fe_str (fa_cons fe_str (fa_cons fe_str fa_nil)))) fa_nil))) (fa_cons (fe_tup (fa_cons fe_str (fa_cons (fe_tup (fa_cons fe_str (fa_cons fe_str fa_nil))) fa_nil))) (fa_cons (fe_tup (fa_cons fe_str (fa_cons (fe_tup (fa_cons fe_str (fa_cons fe_str (fa_cons fe_str fa_nil)))) fa_nil))) (fa_cons (fe_tup (fa_cons fe_str (fa_cons (fe_tup (fa_cons fe_str (fa_cons fe_str fa_nil))) fa_nil))) fa_nil)))))))))))))
theorem cal_table_0 (T : Tx g w mg ad) : Cal g P w g.K mg base 1 (He.ga g.K "_law_table") [] f_table_0 :=
  cal_pos (ok_table T) T.b_table_0 .nil (fun _ => .nil) rfl
end
end DL
namespace DL
open PySem L2
section
variable {P : Program} {w : World} {mg : Str → Option Value} {base : Heap} {ad : Ad} {g : G}
def sp_mixed : Sp := fun vs H Q _ => ∃ s n : Int, vs = [.int s, .int n] ∧ ∀ v, Q (.int v) H
theorem ok_mixed (T : Tx g w mg ad) : FnOk P w g.K mg base CX0 1 (He.ga g.K "_law_mixed") ad.d_mixed ["_law_seed", "_law_count"] sp_mixed := by
  refine okD0 T.F_mixed sc_mixed (fun vs H Q E h => ?_) (fun cdv A outer s H vs Q E hr h => ?_)
  · obtain ⟨s, n, rfl, _⟩ := h; rfl
  · obtain ⟨sd, n, rfl, k⟩ := h
    refine ⟨_, (pss_cons (ps_set (i := 2) sc_mixed.nd rfl (Or.inl rfl) (pe_op op_mod (pe_callTy call_int1 (by rfl) T.z_int (by decide +kernel) (pa_cons (pe_op op_add (pe_op op_add (pe_op op_mul (pv 0) pe_int) (pe_op op_mul (pv 1) pe_int)) pe_int) pa_nil)) pe_int)) (pss_cons (ps_set (i := 3) sc_mixed.nd rfl (Or.inl rfl) (pe_op op_mod (pe_callTy call_int1 (by rfl) T.z_int (by decide +kernel) (pa_cons (pe_op op_add (pe_op op_mul (pv 2) (pv 2)) (pe_op op_mul (pv 1) pe_int)) pa_nil)) pe_int)) (pss_one (ps_ret (pe_op op_fdivW (pv 3) pe_int))))), ?_⟩
    refine ⟨_, rfl, _, _, rfl, rfl, .inr ⟨by decide, by decide⟩, _, rfl, _, _, rfl, rfl, .inr ⟨by decide, by decide⟩, _, _, rfl, rfl, _, _, rfl, rfl, .inl ⟨_, rfl, _, _, rfl, rfl, (show (0 : Int) < 2147483647 by decide), ?_⟩⟩
    have b := emod_lim (x := sd * 48271 + n * 69621 + 11) (l := 2147483647) (by decide)
    generalize (sd * 48271 + n * 69621 + 11) % 2147483647 = o at b
    refine ⟨_, rfl, _, rfl, _, _, rfl, rfl, .inl ⟨by omega, by omega⟩, _, rfl, _, _, rfl, rfl, .inr ⟨by decide, by decide⟩, _, _, rfl, rfl, .inl ⟨_, rfl, _, _, rfl, rfl, (show (0 : Int) < 2147483563 by decide), ?_⟩⟩
    refine ⟨_, rfl, _, _, rfl, rfl, wide_div (b := 2) (by decide) (by decide) (by decide) (by decide), ?_⟩
    exact k _

end
end DL
namespace DL
open PySem L2
section
variable {P : Program} {w : World} {mg : Str → Option Value} {base : Heap} {ad : Ad} {g : G}
def bagL (c : Addr) (sd cn ps lf bg : Int) : List V := [.ref c, .int sd, .int cn, .int ps, .int lf, .int bg]
structure Bg (b c : Addr) (ns : List Int) (H0 H : Hp) (sd cn ps lf bg : Int) : Prop where
  same : Same H0 H
  nb : H0 b = none
  nc : H0 c = none
  hc : H c = some (.lst (ns.map V.int))
  hb : H b = some (.lst (bagL c sd cn ps lf bg))
theorem Bg.ne {b c : Addr} {ns : List Int} {H0 H : Hp} {sd cn ps lf bg : Int} (w : Bg b c ns H0 H sd cn ps lf bg) : c ≠ b := by
  refine ne_of w.hc w.hb fun e => ?_
  injection e with e
  cases ns with
  | nil => cases e
  | cons n ns => injection e with e1 _; cases e1
theorem Bg.put {b c : Addr} {ns : List Int} {H0 H : Hp} {sd cn ps lf bg : Int} (w : Bg b c ns H0 H sd cn ps lf bg) (sd' cn' ps' lf' bg' : Int) :
    Bg b c ns H0 (upd H b (.lst (bagL c sd' cn' ps' lf' bg'))) sd' cn' ps' lf' bg' :=
  ⟨fun q u h => by rw [upd_ne (ne_of_none h w.nb)]; exact w.same _ _ h, w.nb, w.nc, by rw [upd_ne w.ne]; exact w.hc, upd_same⟩
def sp_draw : Sp := fun vs H Q _ => ∃ (b c : Addr) (H0 : Hp) (l : Int), vs = [.ref b, .int l] ∧ (∃ ns sd cn ps lf bg, Bg b c ns H0 H sd cn ps lf bg ∧ 0 ≤ ps) ∧ 0 < l ∧ l < 2 ^ 200 ∧ ∀ (v : Int) (H' : Hp), (∃ ns sd cn ps lf bg, Bg b c ns H0 H' sd cn ps lf bg ∧ 0 ≤ ps) → 0 ≤ v → v < l → Q (.int v) H'
theorem ok_draw0 (T : Tx g w mg ad) : FnOk P w g.K mg base CX0 2 (He.ga g.K "_law_draw") ad.d_draw ["_law_bag_here", "_law_limit"] sp_draw := by
  refine okD0 T.F_draw sc_draw (fun vs H Q E h => ?_) (fun cdv A outer s H vs Q E hr h => ?_)
  · obtain ⟨b, c, H0, l, rfl, _⟩ := h; rfl
  · obtain ⟨b, c, H0, l, rfl, ⟨ns, sd, cn, ps, lf, bg, w, p0⟩, l0, l1, k⟩ := h
    have ld : ∀ {g : Int}, CDivW g l := wide_div (b := 200) l0 (by omega) (by decide) (by decide)
    refine ⟨_, (pss_cons (ps_asg (pe_op op_add (pe_ix ix_list (pv 0) pe_int (fun _ _ => rfl)) pe_int) (pg_sub (pv 0) pe_int set_list)) (C8.pss_cut (ps_if (PW.pt (pw_and (pt_cmpR op_eq (pe_ix ix_list (pv 0) pe_int (fun _ _ => rfl)) pe_int (nomark _)) (pw_and1 (pt_cmpR op_lt (pe_ix ix_list (pv 0) pe_int (fun _ _ => rfl)) (pe_callB call_len_seq (by rfl) T.z_len PySem.boot_len (pa_cons (pe_ix ix_list (pv 0) pe_int (fun _ _ => rfl)) pa_nil)) (nomark _))))) (pss_cons (ps_set (i := 2) sc_draw.nd rfl (Or.inl rfl) (pe_ix ix_list (pe_ix ix_list (pv 0) pe_int (fun _ _ => rfl)) (pe_ix ix_list (pv 0) pe_int (fun _ _ => rfl)) (fun _ _ => rfl))) (pss_cons (ps_asg (pe_op op_add (pe_ix ix_list (pv 0) pe_int (fun _ _ => rfl)) pe_int) (pg_sub (pv 0) pe_int set_list)) (pss_cons (ps_if (pt_cmpR op_lt (pv 2) (pe_op op_pow pe_int pe_int) (nomark _)) (pss_one (ps_ret (pe_op op_mod (pe_callTy call_int1 (by rfl) T.z_int (by decide +kernel) (pa_cons (pe_call (ok_mixed T) (hr.mono (by decide)) (by rfl) T.g_mixed T.F_mixed.kp T.b_mixed_2 .nil pass0 (pa_cons (pe_op op_mod (pe_callTy call_int1 (by rfl) T.z_int (by decide +kernel) (pa_cons (pv 2) pa_nil)) pe_int) (pa_cons (pe_ix ix_list (pv 0) pe_int (fun _ _ => rfl)) pa_nil))) pa_nil)) (pv 1)))) pss_nil) (pss_cons (ps_asg pe_int (pg_sub (pv 0) pe_int set_list)) (pss_one (ps_asg (pe_op op_sub (pv 2) (pe_op op_pow pe_int pe_int)) (pg_sub (pv 0) pe_int set_list))))))) pss_nil) (pss_cons (ps_if (pt_cmpR op_gt (pe_ix ix_list (pv 0) pe_int (fun _ _ => rfl)) pe_int (nomark _)) (pss_cons (ps_asg (pe_op op_sub (pe_ix ix_list (pv 0) pe_int (fun _ _ => rfl)) pe_int) (pg_sub (pv 0) pe_int set_list)) (pss_cons (ps_set (i := 3) sc_draw.nd rfl (Or.inl rfl) (pe_op op_mod (pe_callTy call_int1 (by rfl) T.z_int (by decide +kernel) (pa_cons (pe_ix ix_list (pv 0) pe_int (fun _ _ => rfl)) pa_nil)) (pv 1))) (pss_cons (ps_asg (pe_op op_fdivW (pe_ix ix_list (pv 0) pe_int (fun _ _ => rfl)) (pv 1)) (pg_sub (pv 0) pe_int set_list)) (pss_one (ps_ret (pv 3)))))) pss_nil) (pss_one (ps_ret (pe_op op_mod (pe_callTy call_int1 (by rfl) T.z_int (by decide +kernel) (pa_cons (pe_call (ok_mixed T) (hr.mono (by decide)) (by rfl) T.g_mixed T.F_mixed.kp T.b_mixed_2 .nil pass0 (pa_cons (pe_ix ix_list (pv 0) pe_int (fun _ _ => rfl)) (pa_cons (pe_ix ix_list (pv 0) pe_int (fun _ _ => rfl)) pa_nil))) pa_nil)) (pv 1))))))), ?_⟩
    refine ⟨_, rfl, b, _, 2, _, rfl, rfl, SqL.of w.hb, rfl, _, _, rfl, rfl, _, rfl, b, _, 2, 2, rfl, rfl, w.hb, rfl, ?_⟩
    have w1 := w.put sd (cn + 1) ps lf bg
    refine ⟨fun σ H1 => ∃ (cl : Option V) (ps lf bg : Int), σ = [some (.ref b), some (.int l), cl, none] ∧ Bg b c ns H0 H1 sd (cn + 1) ps lf bg ∧ 0 ≤ ps, ?_, ?_⟩
    · refine ⟨_, rfl, b, _, 4, _, rfl, rfl, SqL.of w1.hb, rfl, rfl, _, rfl, ?_⟩
      refine ite2 (fun h4 => ?_) (fun h4 => ?_)
      · refine ⟨_, rfl, b, _, 3, _, rfl, rfl, SqL.of w1.hb, rfl, _, rfl, b, _, 0, _, rfl, rfl, SqL.of w1.hb, rfl, c, _, rfl, .inl (SqL.of w1.hc), _, _, rfl, rfl, _, rfl, ?_⟩
        refine ite2 (fun h3 => ?_) (fun h3 => ⟨_, ps, lf, bg, rfl, w1, p0⟩)
        have h3 := of_decide_eq_true h3
        obtain ⟨v, hv, vm⟩ := atI_pos (xs := ns.map V.int) p0 h3
        obtain ⟨n, _, rfl⟩ := List.mem_map.mp vm
        refine ⟨_, rfl, b, _, 0, _, rfl, rfl, SqL.of w1.hb, rfl, _, rfl, b, _, 3, _, rfl, rfl, SqL.of w1.hb, rfl, c, _, _, _, rfl, rfl, SqL.of w1.hc, hv, ?_⟩
        refine ⟨_, rfl, b, _, 3, _, rfl, rfl, SqL.of w1.hb, rfl, _, _, rfl, rfl, _, rfl, b, _, 3, 3, rfl, rfl, w1.hb, rfl, ?_⟩
        have w2 := w1.put sd (cn + 1) (ps + 1) lf bg
        refine ⟨_, rfl, _, _, rfl, rfl, ⟨by decide, by decide, by decide⟩, _, _, rfl, rfl, _, rfl, ?_⟩
        refine ite2 (fun _ => ?_) (fun _ => ?_)
        · refine ⟨_, rfl, .inl ⟨_, rfl, _, _, rfl, rfl, (show (0 : Int) < 2147483647 by decide), _, rfl, b, _, 2, _, rfl, rfl, SqL.of w2.hb, rfl, _, _, rfl, fun v => .inl ⟨_, rfl, _, rfl, _, _, rfl, rfl, l0, ?_⟩⟩⟩
          exact k _ _ ⟨_, _, _, _, _, _, w2, (by omega)⟩ (emod_lim l0).1 (emod_lim l0).2
        · refine ⟨_, rfl, b, _, 4, 4, rfl, rfl, w2.hb, rfl, ?_⟩
          have w3 := w2.put sd (cn + 1) (ps + 1) 40 bg
          refine ⟨_, rfl, _, _, rfl, rfl, ⟨by decide, by decide, by decide⟩, _, _, rfl, rfl, _, rfl, b, _, 5, 5, rfl, rfl, w3.hb, rfl, ?_⟩
          exact ⟨_, ps + 1, 40, _, rfl, w3.put sd (cn + 1) (ps + 1) 40 _, by omega⟩
      · exact iteF ⟨_, ps, lf, bg, rfl, w1, p0⟩
    · rintro σ H1 ⟨cl, ps, lf, bg, rfl, w, p0⟩
      refine ⟨_, rfl, b, _, 4, _, rfl, rfl, SqL.of w.hb, rfl, _, _, rfl, rfl, _, rfl, ?_⟩
      refine ite2 (fun _ => ?_) (fun _ => ?_)
      · refine ⟨_, rfl, b, _, 4, _, rfl, rfl, SqL.of w.hb, rfl, _, _, rfl, rfl, _, rfl, b, _, 4, 4, rfl, rfl, w.hb, rfl, ?_⟩
        have w1 := w.put sd (cn + 1) ps (lf - 1) bg
        refine ⟨_, rfl, b, _, 5, _, rfl, rfl, SqL.of w1.hb, rfl, .inl ⟨_, rfl, _, rfl, _, _, rfl, rfl, l0, ?_⟩⟩
        refine ⟨_, rfl, b, _, 5, _, rfl, rfl, SqL.of w1.hb, rfl, _, rfl, _, _, rfl, rfl, ld, _, rfl, b, _, 5, 5, rfl, rfl, w1.hb, rfl, ?_⟩
        exact ⟨_, rfl, k _ _ ⟨_, _, _, _, _, _, w1.put sd (cn + 1) ps (lf - 1) (bg / l), p0⟩ (emod_lim l0).1 (emod_lim l0).2⟩
      · refine ⟨_, rfl, b, _, 1, _, rfl, rfl, SqL.of w.hb, rfl, _, rfl, b, _, 2, _, rfl, rfl, SqL.of w.hb, rfl, _, _, rfl, fun v => .inl ⟨_, rfl, _, rfl, _, _, rfl, rfl, l0, ?_⟩⟩
        exact k _ _ ⟨_, _, _, _, _, _, w, p0⟩ (emod_lim l0).1 (emod_lim l0).2
theorem ok_draw (T : Tx g w mg ad) : FnOk P w g.K mg base (L2.CX P w) 2 (He.ga g.K "_law_draw") ad.d_draw ["_law_bag_here", "_law_limit"] (spD g 2 drawF) := by
  refine FnOk.imp (FnOk.up (ok_draw0 T)) fun vs H Q E h => ?_
  obtain ⟨Z, F, st, ds, hl, sim, r, b, c, l, rfl, hb, l0, l1, q⟩ := h
  obtain ⟨v1, r1, rfl, rv1, r⟩ := r.cons_inv
  obtain ⟨v2, r2, rfl, rv2, r⟩ := r.cons_inv
  rw [r.nil_inv]
  unfold RelD at rv1 rv2
  subst rv1 rv2
  obtain ⟨nFb, mc, sd, cn, ps, lf, bg, hb1, p0⟩ := sim.ob b _ hb
  obtain ⟨nFc, ns, hc1⟩ := sim.ob c _ mc
  refine ⟨b, c, hidB H b c, l, rfl, ⟨ns, sd, cn, ps, lf, bg, ⟨hidB_same, hidB_b, hidB_c, hc1, hb1⟩, p0⟩, l0, l1, fun v H' ⟨ns', sd', cn', ps', lf', bg', w, p1⟩ v0 v1 => ?_⟩
  exact q v v0 v1 (.int v) F H' (Same.refl _) (sim.drawn hb w.same ⟨ns', sd', cn', ps', lf', bg', w.hc, w.hb, p1⟩) relD_int

theorem cal_draw_2 (T : Tx g w mg ad) : Cal g P w g.K mg base 2 (He.ga g.K "_law_draw") [] f_draw_2 :=
  cal_pos (ok_draw T) T.b_draw_2 .nil (fun _ => .nil) rfl
end
end DL
namespace DL
open PySem L2
section
variable {P : Program} {w : World} {mg : Str → Option Value} {base : Heap} {ad : Ad} {g : G}
theorem ok_rules (T : Tx g w mg ad) : FnOk P w g.K mg base (L2.CX P w) 3 (He.ga g.K "_law_rules") ad.d_rules ["_law_bag_here"] (spD g 1 d_rules) :=
  fn_okD T.F_rules sc_rules rfl fun cdv A outer s H E hr tk => (fb_cons (fs_set (i := 1) sc_rules.nd rfl (Or.inl rfl) fe_dicN) (fb_cons (fs_for (passes_of rfl) rfl (fi_list rfl (fe_call0 (cal_table_0 T) MF.mono (hr.mono (by decide)) tk (by rfl) T.g_table T.F_table.kp fk_nil)) (fg_name (i := 2) sc_rules.nd rfl (Or.inl rfl)) (fb_one (fs_dput (hu_of hr) (fe_var 1) (fe_ix (ixr_ix rfl) (fe_var 2) fe_int (fun _ _ => rfl)) (fe_ix (ixr_ix rfl) (fe_ix (ixr_ix rfl) (fe_var 2) fe_int (fun _ _ => rfl)) (fe_call1 (cal_draw_2 T) MF.mono (hr.mono (by decide)) tk (by rfl) T.g_draw T.F_draw.kp (fa_cons (fe_var 0) (fa_cons (fe_callB (cr_len rfl) (by rfl) T.z_len PySem.boot_len (fa_cons (fe_ix (ixr_ix rfl) (fe_var 2) fe_int (fun _ _ => rfl)) fa_nil)) fa_nil)) fk_nil) (fun _ _ => rfl))))) (fb_one (fs_freeze 1 (fs_ret (fe_var 1))))))
theorem cal_rules_1 (T : Tx g w mg ad) : Cal g P w g.K mg base 3 (He.ga g.K "_law_rules") [] f_rules_1 :=
  cal_pos (ok_rules T) T.b_rules_1 .nil (fun _ => .nil) rfl
end
end DL
namespace DL
open PySem L2
section
variable {P : Program} {w : World} {mg : Str → Option Value} {base : Heap} {ad : Ad} {g : G}
theorem ok_word (T : Tx g w mg ad) : FnOk P w g.K mg base (L2.CX P w) 3 (He.ga g.K "_law_word") ad.d_word ["_law_bag_here"] (spD g 1 d_word) :=
  fn_okD T.F_word sc_word rfl fun cdv A outer s H E hr tk => (fb_cons (fs_set (i := 1) sc_word.nd rfl (Or.inr rfl) fe_str) (fb_cons (fs_set (i := 2) sc_word.nd rfl (Or.inl rfl) (fe_op (od_add rfl) fe_int (fe_call1 (cal_draw_2 T) MF.mono (hr.mono (by decide)) tk (by rfl) T.g_draw T.F_draw.kp (fa_cons (fe_var 0) (fa_cons fe_int fa_nil)) fk_nil))) (fb_cons (fs_setLc (i := 3) (ow := [("_law_k", 4)]) out_F rfl sc_word.nd rfl rfl (sw_true rfl rfl rfl (by decide +kernel)) (fi_range1 (by rfl) T.z_range (fa_cons (fe_var 2) fa_nil)) (blkOk_by (own := [("_law_k", 4)]) (N := N_word) (sc := defScope s_word) (by decide +kernel)) (fun _ _ _ _ _ => (fgw_name (i := 4) sc_word.nd rfl (Or.inl rfl) (by decide))) (fun _ _ _ _ _ => fts_nil) (fun _ _ _ _ _ => (fe_ix (ixr_ix rfl) (fe_var 1) (fe_call1 (cal_draw_2 T) MF.mono (hr.mono (by decide)) takes_blk (by rfl) T.g_draw T.F_draw.kp (fa_cons (fe_var 0) (fa_cons fe_int fa_nil)) fk_nil) (fun _ _ => rfl))) MB.mono MB.mono) (fb_one (fs_ret (fe_m1 F.slot_str_join F.type_str_join (mr_join rfl) fe_str (fe_var 3)))))))
theorem cal_word_1 (T : Tx g w mg ad) : Cal g P w g.K mg base 3 (He.ga g.K "_law_word") [] f_word_1 :=
  cal_pos (ok_word T) T.b_word_1 .nil (fun _ => .nil) rfl
end
end DL
namespace DL
open PySem L2
section
variable {P : Program} {w : World} {mg : Str → Option Value} {base : Heap} {ad : Ad} {g : G}
theorem ok_short (T : Tx g w mg ad) : FnOk P w g.K mg base (L2.CX P w) 4 (He.ga g.K "_law_short") ad.d_short ["_law_bag_here"] (spD g 1 d_short) :=
  fn_okD T.F_short sc_short rfl fun cdv A outer s H E hr tk => (fb_cons (fs_set (i := 1) sc_short.nd rfl (Or.inl rfl) fe_str) (fb_cons (fs_set (i := 2) sc_short.nd rfl (Or.inl rfl) (fe_ix (ixr_ix rfl) (fe_var 1) (fe_call1 (cal_draw_2 T) MF.mono (hr.mono (by decide)) tk (by rfl) T.g_draw T.F_draw.kp (fa_cons (fe_var 0) (fa_cons fe_int fa_nil)) fk_nil) (fun _ _ => rfl))) (fb_consC (fs_if (ft_cmp (od_eq rfl hr.units) (fe_call1 (cal_draw_2 T) MF.mono (hr.mono (by decide)) tk (by rfl) T.g_draw T.F_draw.kp (fa_cons (fe_var 0) (fa_cons fe_int fa_nil)) fk_nil) fe_int (nomark _)) (fb_one (fs_set (i := 2) sc_short.nd rfl (Or.inl rfl) (fe_op (od_add rfl) (fe_var 2) (fe_ix (ixr_ix rfl) (fe_var 1) (fe_call1 (cal_draw_2 T) MF.mono (hr.mono (by decide)) tk (by rfl) T.g_draw T.F_draw.kp (fa_cons (fe_var 0) (fa_cons fe_int fa_nil)) fk_nil) (fun _ _ => rfl))))) fb_nil) (fb_consC (fs_if (ft_cmp (od_eq rfl hr.units) (fe_call1 (cal_draw_2 T) MF.mono (hr.mono (by decide)) tk (by rfl) T.g_draw T.F_draw.kp (fa_cons (fe_var 0) (fa_cons fe_int fa_nil)) fk_nil) fe_int (nomark _)) (fb_one (fs_set (i := 2) sc_short.nd rfl (Or.inl rfl) (fe_call1 (cal_word_1 T) MF.mono (hr.mono (by decide)) tk (by rfl) T.g_word T.F_word.kp (fa_cons (fe_var 0) fa_nil) fk_nil))) fb_nil) (fb_one (fs_ret (fe_var 2)))))))
theorem cal_short_1 (T : Tx g w mg ad) : Cal g P w g.K mg base 4 (He.ga g.K "_law_short") [] f_short_1 :=
  cal_pos (ok_short T) T.b_short_1 .nil (fun _ => .nil) rfl
end
end DL
namespace DL
open PySem L2
section
variable {P : Program} {w : World} {mg : Str → Option Value} {base : Heap} {ad : Ad} {g : G}
theorem ok_fresh (T : Tx g w mg ad) : FnOk P w g.K mg base (L2.CX P w) 5 (He.ga g.K "_law_fresh") ad.d_fresh ["_law_bag_here", "_law_taken"] (spD g 2 d_fresh) :=
  fn_okD T.F_fresh sc_fresh rfl fun cdv A outer s H E hr tk => (fb_cons (fs_set (i := 2) sc_fresh.nd rfl (Or.inl rfl) (fe_call1 (cal_short_1 T) MF.mono (hr.mono (by decide)) tk (by rfl) T.g_short T.F_short.kp (fa_cons (fe_var 0) fa_nil) fk_nil)) (fb_cons (fs_if (ft_cmp (od_notIn rfl) (fe_var 2) (fe_var 1) (by rfl)) (fb_one (fs_ret (fe_var 2))) fb_nil) (fb_cons (fs_for (passes_of rfl) rfl (fi_str fe_str) (fg_name (i := 3) sc_fresh.nd rfl (Or.inl rfl)) (fb_one (fs_if (ft_cmp (od_notIn rfl) (fe_op (od_add rfl) (fe_slice rfl (fe_var 2) fo_none (fo_some fe_int)) (fe_var 3)) (fe_var 1) (by rfl)) (fb_one (fs_ret (fe_op (od_add rfl) (fe_slice rfl (fe_var 2) fo_none (fo_some fe_int)) (fe_var 3)))) fb_nil))) (fb_one (fs_ret (fe_var 2))))))
theorem cal_fresh_2 (T : Tx g w mg ad) : Cal g P w g.K mg base 5 (He.ga g.K "_law_fresh") [] f_fresh_2 :=
  cal_pos (ok_fresh T) T.b_fresh_2 .nil (fun _ => .nil) rfl
end
end DL
namespace DL
open PySem L2
section
variable {P : Program} {w : World} {mg : Str → Option Value} {base : Heap} {ad : Ad} {g : G}
theorem ok_begin (T : Tx g w mg ad) : FnOk P w g.K mg base (L2.CX P w) 3 (He.ga g.K "_law_begin") ad.d_begin ["_law_bag_here"] (spD g 1 d_begin) :=
  fn_okD T.F_begin sc_begin rfl fun cdv A outer s H E hr tk => (fb_cons (fs_set (i := 1) sc_begin.nd rfl (Or.inl rfl) (fe_call1 (cal_draw_2 T) MF.mono (hr.mono (by decide)) tk (by rfl) T.g_draw T.F_draw.kp (fa_cons (fe_var 0) (fa_cons fe_int fa_nil)) fk_nil)) (fb_cons (fs_if (ft_cmp (od_eq rfl hr.units) (fe_var 1) fe_int (nomark _)) (fb_one (fs_ret fe_non)) fb_nil) (fb_one (fs_ret (fe_tup (fa_cons (fe_ix (ixr_ix rfl) (fe_tup (fa_cons fe_str (fa_cons fe_str (fa_cons fe_str fa_nil)))) (fe_op od_sub (fe_var 1) fe_int) (fun _ _ => rfl)) (fa_cons (fe_cmp (od_eq rfl hr.units) (fe_call1 (cal_draw_2 T) MF.mono (hr.mono (by decide)) tk (by rfl) T.g_draw T.F_draw.kp (fa_cons (fe_var 0) (fa_cons fe_int fa_nil)) fk_nil) fe_int (nomark _)) fa_nil)))))))
theorem cal_begin_1 (T : Tx g w mg ad) : Cal g P w g.K mg base 3 (He.ga g.K "_law_begin") [] f_begin_1 :=
  cal_pos (ok_begin T) T.b_begin_1 .nil (fun _ => .nil) rfl
end
end DL
namespace DL
open PySem L2
section
variable {P : Program} {w : World} {mg : Str → Option Value} {base : Heap} {ad : Ad} {g : G}
theorem ok_rows (T : Tx g w mg ad) : FnOk P w g.K mg base (L2.CX P w) 6 (He.ga g.K "_law_rows") ad.d_rows ["_law_bag_here", "_law_many_here"] (spD g 2 d_rows) :=
  fn_okD T.F_rows sc_rows rfl fun cdv A outer s H E hr tk => (fb_cons (fs_set (i := 2) sc_rows.nd rfl (Or.inl rfl) (fe_lstN fa_nil)) (fb_cons (fs_for (passes_of rfl) rfl (fi_range1 (by rfl) T.z_range (fa_cons (fe_var 1) fa_nil)) (fg_name (i := 3) sc_rows.nd rfl (Or.inl rfl)) (fb_cons (fs_set (i := 4) sc_rows.nd rfl (Or.inl rfl) (fe_call1 (cal_fresh_2 T) MF.mono (hr.mono (by decide)) tk (by rfl) T.g_fresh T.F_fresh.kp (fa_cons (fe_var 0) (fa_cons (fe_lc (ow := [("_law_row", 7)]) out_F rfl sc_rows.nd (fi_list rfl (fe_var 2)) (blkOk_by (own := [("_law_row", 7)]) (N := N_rows) (sc := defScope s_rows) (by decide +kernel)) (fun _ _ _ _ _ => (fgw_name (i := 7) sc_rows.nd rfl (Or.inl rfl) (by decide))) (fun _ _ _ _ _ => fts_nil) (fun _ _ _ _ _ => (fe_ix (ixr_ix rfl) (fe_var 7) fe_int (fun _ _ => rfl))) MB.mono MB.mono) fa_nil)) fk_nil)) (fb_cons (fs_set (i := 5) sc_rows.nd rfl (Or.inl rfl) (fe_call1 (cal_draw_2 T) MF.mono (hr.mono (by decide)) tk (by rfl) T.g_draw T.F_draw.kp (fa_cons (fe_var 0) (fa_cons (fe_op (od_add rfl) (fe_var 3) fe_int) fa_nil)) fk_nil)) (fb_consC (fs_if (FW.ft (fw_and (ft_cmp od_gt (fe_var 3) fe_int (nomark _)) (fw_and (ft_cmp (od_eq rfl hr.units) (fe_var 5) fe_int (nomark _)) (fw_one (.inl rfl) (ft_cmp (od_eq rfl hr.units) (fe_call1 (cal_draw_2 T) MF.mono (hr.mono (by decide)) tk (by rfl) T.g_draw T.F_draw.kp (fa_cons (fe_var 0) (fa_cons fe_int fa_nil)) fk_nil) fe_int (nomark _)))))) (fb_one (fs_set (i := 5) sc_rows.nd rfl (Or.inl rfl) (fe_var 3))) fb_nil) (fb_cons (fs_set (i := 6) sc_rows.nd rfl (Or.inl rfl) fe_non) (fb_consC (fs_if (ft_cmp od_gt (fe_var 5) fe_int (nomark _)) (fb_one (fs_set (i := 6) sc_rows.nd rfl (Or.inl rfl) (fe_ix (ixr_ix rfl) (fe_ix (ixr_ix rfl) (fe_var 2) (fe_op od_sub (fe_var 5) fe_int) (fun _ _ => rfl)) fe_int (fun _ _ => rfl)))) fb_nil) (fb_one (fs_expr (fe_append rfl (fe_var 2) (fe_tup (fa_cons (fe_var 4) (fa_cons (fe_var 6) (fa_cons (fe_cmp (od_eq rfl hr.units) (fe_call1 (cal_draw_2 T) MF.mono (hr.mono (by decide)) tk (by rfl) T.g_draw T.F_draw.kp (fa_cons (fe_var 0) (fa_cons fe_int fa_nil)) fk_nil) fe_int (nomark _)) (fa_cons (fe_call1 (cal_begin_1 T) MF.mono (hr.mono (by decide)) tk (by rfl) T.g_begin T.F_begin.kp (fa_cons (fe_var 0) fa_nil) fk_nil) fa_nil)))))))))))))) (fb_one (fs_freeze 2 (fs_ret (fe_var 2))))))
theorem cal_rows_2 (T : Tx g w mg ad) : Cal g P w g.K mg base 6 (He.ga g.K "_law_rows") [] f_rows_2 :=
  cal_pos (ok_rows T) T.b_rows_2 .nil (fun _ => .nil) rfl
end
end DL
namespace DL
open PySem L2
section
variable {P : Program} {w : World} {mg : Str → Option Value} {base : Heap} {ad : Ad} {g : G}
theorem ok_many (T : Tx g w mg ad) : FnOk P w g.K mg base (L2.CX P w) 3 (He.ga g.K "_law_many") ad.d_many ["_law_bag_here"] (spD g 1 d_many) :=
  fn_okD T.F_many sc_many rfl fun cdv A outer s H E hr tk => (fb_cons (fs_set (i := 1) sc_many.nd rfl (Or.inl rfl) (fe_op (od_add rfl) fe_int (fe_call1 (cal_draw_2 T) MF.mono (hr.mono (by decide)) tk (by rfl) T.g_draw T.F_draw.kp (fa_cons (fe_var 0) (fa_cons fe_int fa_nil)) fk_nil))) (fb_consC (fs_if (ft_cmp (od_eq rfl hr.units) (fe_call1 (cal_draw_2 T) MF.mono (hr.mono (by decide)) tk (by rfl) T.g_draw T.F_draw.kp (fa_cons (fe_var 0) (fa_cons fe_int fa_nil)) fk_nil) fe_int (nomark _)) (fb_one (fs_set (i := 1) sc_many.nd rfl (Or.inl rfl) (fe_op (od_add rfl) (fe_var 1) (fe_call1 (cal_draw_2 T) MF.mono (hr.mono (by decide)) tk (by rfl) T.g_draw T.F_draw.kp (fa_cons (fe_var 0) (fa_cons fe_int fa_nil)) fk_nil)))) fb_nil) (fb_one (fs_ret (fe_var 1)))))
theorem cal_many_1 (T : Tx g w mg ad) : Cal g P w g.K mg base 3 (He.ga g.K "_law_many") [] f_many_1 :=
  cal_pos (ok_many T) T.b_many_1 .nil (fun _ => .nil) rfl
end
end DL
namespace DL
open PySem L2
section
variable {P : Program} {w : World} {mg : Str → Option Value} {base : Heap} {ad : Ad} {g : G}
theorem ok_shown (T : Tx g w mg ad) : FnOk P w g.K mg base (L2.CX P w) 2 (He.ga g.K "_law_shown") ad.d_shown ["_law_rules_here", "_law_rows_here"] (spD g 2 d_shown) :=
  fn_okD T.F_shown sc_shown rfl fun cdv A outer s H E hr tk => (fb_cons (fs_setLc (i := 2) (ow := [("_law_row", 3)]) out_N rfl sc_shown.nd rfl rfl (sw_true rfl rfl rfl (by decide +kernel)) (fi_list rfl (fe_call0 (cal_table_0 T) MF.mono (hr.mono (by decide)) tk (by rfl) T.g_table T.F_table.kp fk_nil)) (blkOk_by (own := [("_law_row", 3)]) (N := N_shown) (sc := defScope s_shown) (by decide +kernel)) (fun _ _ _ _ _ => (fgw_name (i := 3) sc_shown.nd rfl (Or.inl rfl) (by decide))) (fun _ _ _ _ _ => fts_nil) (fun _ _ _ _ _ => (fe_op (od_add rfl) (fe_op (od_add rfl) (fe_ix (ixr_ix rfl) (fe_var 3) fe_int (fun _ _ => rfl)) fe_str) (fe_dget (hu_of hr) (fe_var 0) (fe_ix (ixr_ix rfl) (fe_var 3) fe_int (fun _ _ => rfl)) (fun _ _ => rfl)))) MB.mono MB.mono) (fb_cons (fs_for (passes_of rfl) rfl (fi_list rfl (fe_var 1)) (fg_name (i := 3) sc_shown.nd rfl (Or.inl rfl)) (fb_cons (fs_set (i := 4) sc_shown.nd rfl (Or.inl rfl) (fe_op (od_add rfl) fe_str (fe_ix (ixr_ix rfl) (fe_var 3) fe_int (fun _ _ => rfl)))) (fb_consC (fs_if (ft_cmp od_isnt (fe_ix (ixr_ix rfl) (fe_var 3) fe_int (fun _ _ => rfl)) fe_non (nomark _)) (fb_one (fs_set (i := 4) sc_shown.nd rfl (Or.inl rfl) (fe_op (od_add rfl) (fe_op (od_add rfl) (fe_op (od_add rfl) (fe_var 4) fe_str) (fe_ix (ixr_ix rfl) (fe_var 3) fe_int (fun _ _ => rfl))) fe_str))) fb_nil) (fb_consC (fs_if (ft_val (fe_ix (ixr_ix rfl) (fe_var 3) fe_int (fun _ _ => rfl))) (fb_one (fs_set (i := 4) sc_shown.nd rfl (Or.inl rfl) (fe_op (od_add rfl) (fe_var 4) fe_str))) fb_nil) (fb_cons (fs_expr (fe_append rfl (fe_var 2) (fe_var 4))) (fb_one (fs_if (ft_cmp od_isnt (fe_ix (ixr_ix rfl) (fe_var 3) fe_int (fun _ _ => rfl)) fe_non (nomark _)) (fb_cons (fs_set (i := 4) sc_shown.nd rfl (Or.inl rfl) (fe_op (od_add rfl) fe_str (fe_ix (ixr_ix rfl) (fe_ix (ixr_ix rfl) (fe_var 3) fe_int (fun _ _ => rfl)) fe_int (fun _ _ => rfl)))) (fb_consC (fs_if (ft_val (fe_ix (ixr_ix rfl) (fe_ix (ixr_ix rfl) (fe_var 3) fe_int (fun _ _ => rfl)) fe_int (fun _ _ => rfl))) (fb_one (fs_set (i := 4) sc_shown.nd rfl (Or.inl rfl) (fe_op (od_add rfl) (fe_var 4) fe_str))) fb_nil) (fb_one (fs_expr (fe_append rfl (fe_var 2) (fe_var 4)))))) fb_nil))))))) (fb_one (fs_freeze 2 (fs_ret (fe_var 2))))))
theorem cal_shown_2 (T : Tx g w mg ad) : Cal g P w g.K mg base 2 (He.ga g.K "_law_shown") [] f_shown_2 :=
  cal_pos (ok_shown T) T.b_shown_2 .nil (fun _ => .nil) rfl
end
end DL
namespace DL
open PySem L2
section
variable {P : Program} {w : World} {mg : Str → Option Value} {base : Heap} {ad : Ad} {g : G}
theorem ok_is_choice (T : Tx g w mg ad) : FnOk P w g.K mg base (L2.CX P w) 1 (He.ga g.K "is_choice") ad.d_is_choice ["rule", "given"] (spD g 2 d_is_choice) :=
  fn_okD T.F_is_choice sc_is_choice rfl fun cdv A outer s H E hr tk => (fb_one (fs_ret (fe_and (fe_callB (cr_isi rfl T.own) (by rfl) T.z_isinstance (by decide +kernel) (fa_cons (fe_var 1) (fa_cons (fe_cst (pe_bltn (v := .ty "str") (by rfl) T.z_str (by decide +kernel) rfl) fun _ => relD_ty) fa_nil))) (fe_one (fe_cmp (od_in rfl) (fe_var 1) (fe_ix (ixr_tab rfl T.t_CHOICES) (fe_cst (pe_glob (v := .ref (g.cs "CHOICES")) (by rfl) T.c_CHOICES rfl) fun _ => relD_cst) (fe_var 0) (fun _ _ => rfl)) (by rfl))))))
theorem cal_is_choice_2 (T : Tx g w mg ad) : Cal g P w g.K mg base 1 (He.ga g.K "is_choice") [] f_is_choice_2 :=
  cal_pos (ok_is_choice T) T.b_is_choice_2 .nil (fun _ => .nil) rfl
end
end DL
namespace DL
open PySem L2
section
variable {P : Program} {w : World} {mg : Str → Option Value} {base : Heap} {ad : Ad} {g : G}
theorem ok_read_rule (T : Tx g w mg ad) : FnOk P w g.K mg base (L2.CX P w) 2 (He.ga g.K "read_rule") ad.d_read_rule ["rule", "line"] (spD g 2 d_read_rule) :=
  fn_okD T.F_read_rule sc_read_rule rfl fun cdv A outer s H E hr tk => (fb_cons (fs_set (i := 2) sc_read_rule.nd rfl (Or.inl rfl) (fe_op (od_add rfl) (fe_var 0) fe_str)) (fb_cons (fs_if (ft_not (ft_val (fe_m1 F.slot_str_startswith F.type_str_startswith mr_starts (fe_var 1) (fe_var 2)))) (fb_one (fs_ret fe_non)) fb_nil) (fb_cons (fs_set (i := 3) sc_read_rule.nd rfl (Or.inl rfl) (fe_slice rfl (fe_var 1) (fo_some (fe_callB (cr_len rfl) (by rfl) T.z_len PySem.boot_len (fa_cons (fe_var 2) fa_nil))) fo_none)) (fb_cons (fs_if (ft_val (fe_call1 (cal_is_choice_2 T) MF.mono (hr.mono (by decide)) tk (by rfl) T.g_is_choice T.F_is_choice.kp (fa_cons (fe_var 0) (fa_cons (fe_var 3) fa_nil)) fk_nil)) (fb_one (fs_ret (fe_var 3))) fb_nil) (fb_one (fs_ret fe_non))))))
theorem cal_read_rule_2 (T : Tx g w mg ad) : Cal g P w g.K mg base 2 (He.ga g.K "read_rule") [] f_read_rule_2 :=
  cal_pos (ok_read_rule T) T.b_read_rule_2 .nil (fun _ => .nil) rfl
end
end DL
namespace DL
open PySem L2
section
variable {P : Program} {w : World} {mg : Str → Option Value} {base : Heap} {ad : Ad} {g : G}
theorem ok_is_name (T : Tx g w mg ad) : FnOk P w g.K mg base (L2.CX P w) 1 (He.ga g.K "is_name") ad.d_is_name ["thing"] (spD g 1 d_is_name) :=
  fn_okD T.F_is_name sc_is_name rfl fun cdv A outer s H E hr tk => (fb_cons (fs_if (ft_not (ft_val (fe_callB (cr_isi rfl T.own) (by rfl) T.z_isinstance (by decide +kernel) (fa_cons (fe_var 0) (fa_cons (fe_cst (pe_bltn (v := .ty "str") (by rfl) T.z_str (by decide +kernel) rfl) fun _ => relD_ty) fa_nil))))) (fb_one (fs_ret fe_bl)) fb_nil) (fb_cons (fs_if (ft_not (ft_chain od_le od_le fe_int (fe_callB (cr_len rfl) (by rfl) T.z_len PySem.boot_len (fa_cons (fe_var 0) fa_nil)) (fe_cst (pe_glob (v := .int 8) (by rfl) T.c_MOST_LETTERS ⟨_, rfl⟩) fun _ => relD_int))) (fb_one (fs_ret fe_bl)) fb_nil) (fb_cons (fs_for (passes_of rfl) rfl (fi_str (fe_var 0)) (fg_name (i := 1) sc_is_name.nd rfl (Or.inl rfl)) (fb_one (fs_if (ft_cmp (od_notIn rfl) (fe_var 1) (fe_cst (pe_glob (v := .str "abcdefghijklmnopqrstuvwxyz") (by rfl) T.c_LETTERS ⟨_, rfl⟩) fun _ => relD_str) (by rfl)) (fb_one (fs_ret fe_bl)) fb_nil))) (fb_one (fs_ret fe_bl)))))
theorem cal_is_name_1 (T : Tx g w mg ad) : Cal g P w g.K mg base 1 (He.ga g.K "is_name") [] f_is_name_1 :=
  cal_pos (ok_is_name T) T.b_is_name_1 .nil (fun _ => .nil) rfl
end
end DL
namespace DL
open PySem L2
section
variable {P : Program} {w : World} {mg : Str → Option Value} {base : Heap} {ad : Ad} {g : G}
theorem ok_read_kind (T : Tx g w mg ad) : FnOk P w g.K mg base (L2.CX P w) 2 (He.ga g.K "read_kind") ad.d_read_kind ["line"] (spD g 1 d_read_kind) :=
  fn_okD T.F_read_kind sc_read_kind rfl fun cdv A outer s H E hr tk => (fb_cons (fs_if (ft_not (ft_val (fe_m1 F.slot_str_startswith F.type_str_startswith mr_starts (fe_var 0) fe_str))) (fb_one (fs_ret fe_non)) fb_nil) (fb_cons (fs_set (i := 1) sc_read_kind.nd rfl (Or.inl rfl) (fe_slice rfl (fe_var 0) (fo_some fe_int) fo_none)) (fb_cons (fs_set (i := 2) sc_read_kind.nd rfl (Or.inl rfl) (fe_m1 F.slot_str_endswith F.type_str_endswith mr_ends (fe_var 1) fe_str)) (fb_consC (fs_if (ft_val (fe_var 2)) (fb_one (fs_set (i := 1) sc_read_kind.nd rfl (Or.inl rfl) (fe_slice rfl (fe_var 1) fo_none (fo_some (fe_neg (i := 4)))))) fb_nil) (fb_cons (fs_asg (fe_m1 F.slot_str_partition F.type_str_partition mr_part (fe_var 1) fe_str) (fg_tup rfl rfl (fgs_cons (fg_name (i := 3) sc_read_kind.nd rfl (Or.inl rfl)) (fgs_cons (fg_name (i := 4) sc_read_kind.nd rfl (Or.inl rfl)) (fgs_cons (fg_name (i := 5) sc_read_kind.nd rfl (Or.inl rfl)) fgs_nil))))) (fb_cons (fs_if (ft_cmp (od_eq rfl hr.units) (fe_var 4) fe_str (nomark _)) (fb_one (fs_ret (fe_ifExp (ft_val (fe_call1 (cal_is_name_1 T) MF.mono (hr.mono (by decide)) tk (by rfl) T.g_is_name T.F_is_name.kp (fa_cons (fe_var 3) fa_nil) fk_nil)) (fe_tup (fa_cons (fe_var 3) (fa_cons fe_non (fa_cons (fe_var 2) (fa_cons fe_non fa_nil))))) fe_non))) fb_nil) (fb_cons (fs_if (ft_not (ft_val (fe_m1 F.slot_str_endswith F.type_str_endswith mr_ends (fe_var 5) fe_str))) (fb_one (fs_ret fe_non)) fb_nil) (fb_cons (fs_set (i := 5) sc_read_kind.nd rfl (Or.inl rfl) (fe_slice rfl (fe_var 5) fo_none (fo_some (fe_neg (i := 1))))) (fb_cons (fs_if (FW.ft (fw_and (ft_val (fe_call1 (cal_is_name_1 T) MF.mono (hr.mono (by decide)) tk (by rfl) T.g_is_name T.F_is_name.kp (fa_cons (fe_var 3) fa_nil) fk_nil)) (fw_one (.inl rfl) (ft_val (fe_call1 (cal_is_name_1 T) MF.mono (hr.mono (by decide)) tk (by rfl) T.g_is_name T.F_is_name.kp (fa_cons (fe_var 5) fa_nil) fk_nil))))) (fb_one (fs_ret (fe_tup (fa_cons (fe_var 3) (fa_cons (fe_var 5) (fa_cons (fe_var 2) (fa_cons fe_non fa_nil))))))) fb_nil) (fb_one (fs_ret fe_non)))))))))))
theorem cal_read_kind_1 (T : Tx g w mg ad) : Cal g P w g.K mg base 2 (He.ga g.K "read_kind") [] f_read_kind_1 :=
  cal_pos (ok_read_kind T) T.b_read_kind_1 .nil (fun _ => .nil) rfl
end
end DL
namespace DL
open PySem L2
section
variable {P : Program} {w : World} {mg : Str → Option Value} {base : Heap} {ad : Ad} {g : G}
theorem ok_read_begin (T : Tx g w mg ad) : FnOk P w g.K mg base (L2.CX P w) 1 (He.ga g.K "read_begin") ad.d_read_begin ["line"] (spD g 1 d_read_begin) :=
  fn_okD T.F_read_begin sc_read_begin rfl fun cdv A outer s H E hr tk => (fb_cons (fs_for (passes_of rfl) rfl (fi_tup rfl (fe_cst (pe_glob (v := .ref (He.ga g.K "UPS")) (by rfl) T.c_UPS rfl) fun F => T.w_UPS F)) (fg_name (i := 1) sc_read_begin.nd rfl (Or.inl rfl)) (fb_cons (fs_if (ft_cmp (od_eq rfl hr.units) (fe_var 0) (fe_op (od_add rfl) fe_str (fe_var 1)) (nomark _)) (fb_one (fs_ret (fe_tup (fa_cons (fe_var 1) (fa_cons fe_bl fa_nil))))) fb_nil) (fb_one (fs_if (ft_cmp (od_eq rfl hr.units) (fe_var 0) (fe_op (od_add rfl) (fe_op (od_add rfl) fe_str (fe_var 1)) fe_str) (nomark _)) (fb_one (fs_ret (fe_tup (fa_cons (fe_var 1) (fa_cons fe_bl fa_nil))))) fb_nil)))) (fb_one (fs_ret fe_non)))
theorem cal_read_begin_1 (T : Tx g w mg ad) : Cal g P w g.K mg base 1 (He.ga g.K "read_begin") [] f_read_begin_1 :=
  cal_pos (ok_read_begin T) T.b_read_begin_1 .nil (fun _ => .nil) rfl
end
end DL
namespace DL
open PySem L2
section
variable {P : Program} {w : World} {mg : Str → Option Value} {base : Heap} {ad : Ad} {g : G}
theorem ok_read_rows (T : Tx g w mg ad) : FnOk P w g.K mg base (L2.CX P w) 3 (He.ga g.K "read_rows") ad.d_read_rows ["lines"] (spD g 1 d_read_rows) :=
  fn_okD T.F_read_rows sc_read_rows rfl fun cdv A outer s H E hr tk => (fb_cons (fs_set (i := 1) sc_read_rows.nd rfl (Or.inl rfl) (fe_lstN fa_nil)) (fb_cons (fs_set (i := 2) sc_read_rows.nd rfl (Or.inl rfl) fe_bl) (fb_cons (fs_for (passes_of rfl) rfl (fi_enumL rfl (by rfl) T.z_enumerate (fa_cons (fe_var 0) fa_nil)) (fg_tup rfl rfl (fgs_cons (fg_name (i := 3) sc_read_rows.nd rfl (Or.inl rfl)) (fgs_cons (fg_name (i := 4) sc_read_rows.nd rfl (Or.inl rfl)) fgs_nil))) (fb_cons (fs_if (ft_cmp od_lt (fe_var 3) (fe_callB (cr_len rfl) (by rfl) T.z_len PySem.boot_len (fa_cons (fe_cval rfl T.cr_Maker T.cv_Maker_RULES (fun F => T.cw_Maker_RULES F) (pe_glob (v := .ref (g.cl "Maker")) (by rfl) T.g_Maker rfl)) fa_nil)) (nomark _)) (fb_one fs_continue) fb_nil) (fb_cons (fs_set (i := 5) sc_read_rows.nd rfl (Or.inl rfl) (fe_call1 (cal_read_kind_1 T) MF.mono (hr.mono (by decide)) tk (by rfl) T.g_read_kind T.F_read_kind.kp (fa_cons (fe_var 4) fa_nil) fk_nil)) (fb_cons (fs_if (ft_cmp od_isnt (fe_var 5) fe_non (nomark _)) (fb_cons (fs_expr (fe_append rfl (fe_var 1) (fe_var 5))) (fb_cons (fs_set (i := 2) sc_read_rows.nd rfl (Or.inl rfl) fe_bl) (fb_one fs_continue))) fb_nil) (fb_cons (fs_set (i := 6) sc_read_rows.nd rfl (Or.inl rfl) (fe_call1 (cal_read_begin_1 T) MF.mono (hr.mono (by decide)) tk (by rfl) T.g_read_begin T.F_read_begin.kp (fa_cons (fe_var 4) fa_nil) fk_nil)) (fb_cons (fs_if (FW.ft (fw_or (ft_cmp od_is (fe_var 6) fe_non (nomark _)) (fw_one (.inr rfl) (ft_not (ft_val (fe_var 2)))))) (fb_one fs_never) fb_nil) (fb_cons (fs_asg (fe_ix (ixr_ix rfl) (fe_var 1) (fe_neg (i := 1)) (fun _ _ => rfl)) (fg_tup rfl rfl (fgs_cons (fg_name (i := 7) sc_read_rows.nd rfl (Or.inl rfl)) (fgs_cons (fg_name (i := 8) sc_read_rows.nd rfl (Or.inl rfl)) (fgs_cons (fg_name (i := 9) sc_read_rows.nd rfl (Or.inl rfl)) (fgs_cons (fg_name (i := 10) sc_read_rows.nd rfl (Or.inl rfl)) fgs_nil)))))) (fb_cons (fs_lput (fe_var 1) (fe_neg (i := 1)) (fe_tup (fa_cons (fe_var 7) (fa_cons (fe_var 8) (fa_cons (fe_var 9) (fa_cons (fe_var 6) fa_nil)))))) (fb_one (fs_set (i := 2) sc_read_rows.nd rfl (Or.inl rfl) fe_bl)))))))))) (fb_one (fs_freeze 1 (fs_ret (fe_var 1)))))))
theorem cal_read_rows_1 (T : Tx g w mg ad) : Cal g P w g.K mg base 3 (He.ga g.K "read_rows") [] f_read_rows_1 :=
  cal_pos (ok_read_rows T) T.b_read_rows_1 .nil (fun _ => .nil) rfl
end
end DL
namespace DL
open PySem L2
section
variable {P : Program} {w : World} {mg : Str → Option Value} {base : Heap} {ad : Ad} {g : G}
theorem ok_is_up (T : Tx g w mg ad) : FnOk P w g.K mg base (L2.CX P w) 1 (He.ga g.K "is_up") ad.d_is_up ["thing"] (spD g 1 d_is_up) :=
  fn_okD T.F_is_up sc_is_up rfl fun cdv A outer s H E hr tk => (fb_one (fs_ret (fe_and (fe_callB (cr_isi rfl T.own) (by rfl) T.z_isinstance (by decide +kernel) (fa_cons (fe_var 0) (fa_cons (fe_cst (pe_bltn (v := .ty "str") (by rfl) T.z_str (by decide +kernel) rfl) fun _ => relD_ty) fa_nil))) (fe_one (fe_cmp (od_in rfl) (fe_var 0) (fe_cst (pe_glob (v := .ref (He.ga g.K "UPS")) (by rfl) T.c_UPS rfl) fun F => T.w_UPS F) (by rfl))))))
theorem cal_is_up_1 (T : Tx g w mg ad) : Cal g P w g.K mg base 1 (He.ga g.K "is_up") [] f_is_up_1 :=
  cal_pos (ok_is_up T) T.b_is_up_1 .nil (fun _ => .nil) rfl
end
end DL
namespace DL
open PySem L2
section
variable {P : Program} {w : World} {mg : Str → Option Value} {base : Heap} {ad : Ad} {g : G}
theorem ok_is_row (T : Tx g w mg ad) : FnOk P w g.K mg base (L2.CX P w) 2 (He.ga g.K "is_row") ad.d_is_row ["thing"] (spD g 1 d_is_row) :=
  fn_okD T.F_is_row sc_is_row rfl fun cdv A outer s H E hr tk => (fb_cons (fs_if (FW.ft (fw_or (ft_not (ft_val (fe_callB (cr_isi rfl T.own) (by rfl) T.z_isinstance (by decide +kernel) (fa_cons (fe_var 0) (fa_cons (fe_cst (pe_bltn (v := .ty "tuple") (by rfl) T.z_tuple (by decide +kernel) rfl) fun _ => relD_ty) fa_nil))))) (fw_one (.inr rfl) (ft_cmp (od_ne rfl hr.units) (fe_callB (cr_len rfl) (by rfl) T.z_len PySem.boot_len (fa_cons (fe_var 0) fa_nil)) fe_int (nomark _))))) (fb_one (fs_ret fe_bl)) fb_nil) (fb_cons (fs_asg (fe_var 0) (fg_tup rfl rfl (fgs_cons (fg_name (i := 1) sc_is_row.nd rfl (Or.inl rfl)) (fgs_cons (fg_name (i := 2) sc_is_row.nd rfl (Or.inl rfl)) (fgs_cons (fg_name (i := 3) sc_is_row.nd rfl (Or.inl rfl)) (fgs_cons (fg_name (i := 4) sc_is_row.nd rfl (Or.inl rfl)) fgs_nil)))))) (fb_cons (fs_if (FW.ft (fw_or (ft_not (ft_val (fe_call1 (cal_is_name_1 T) MF.mono (hr.mono (by decide)) tk (by rfl) T.g_is_name T.F_is_name.kp (fa_cons (fe_var 1) fa_nil) fk_nil))) (fw_or (ft_not (FW.ft (fw_or (ft_cmp od_is (fe_var 2) fe_non (nomark _)) (fw_one (.inr rfl) (ft_val (fe_call1 (cal_is_name_1 T) MF.mono (hr.mono (by decide)) tk (by rfl) T.g_is_name T.F_is_name.kp (fa_cons (fe_var 2) fa_nil) fk_nil)))))) (fw_one (.inr rfl) (ft_not (ft_val (fe_callB (cr_isi rfl T.own) (by rfl) T.z_isinstance (by decide +kernel) (fa_cons (fe_var 3) (fa_cons (fe_cst (pe_bltn (v := .ty "bool") (by rfl) T.z_bool (by decide +kernel) rfl) fun _ => relD_ty) fa_nil))))))))) (fb_one (fs_ret fe_bl)) fb_nil) (fb_cons (fs_if (ft_cmp od_is (fe_var 4) fe_non (nomark _)) (fb_one (fs_ret fe_bl)) fb_nil) (fb_one (fs_ret (fe_and (fe_callB (cr_isi rfl T.own) (by rfl) T.z_isinstance (by decide +kernel) (fa_cons (fe_var 4) (fa_cons (fe_cst (pe_bltn (v := .ty "tuple") (by rfl) T.z_tuple (by decide +kernel) rfl) fun _ => relD_ty) fa_nil))) (fe_and (fe_cmp (od_eq rfl hr.units) (fe_callB (cr_len rfl) (by rfl) T.z_len PySem.boot_len (fa_cons (fe_var 4) fa_nil)) fe_int (nomark _)) (fe_and (fe_call1 (cal_is_up_1 T) MF.mono (hr.mono (by decide)) tk (by rfl) T.g_is_up T.F_is_up.kp (fa_cons (fe_ix (ixr_ix rfl) (fe_var 4) fe_int (fun _ _ => rfl)) fa_nil) fk_nil) (fe_one (fe_callB (cr_isi rfl T.own) (by rfl) T.z_isinstance (by decide +kernel) (fa_cons (fe_ix (ixr_ix rfl) (fe_var 4) fe_int (fun _ _ => rfl)) (fa_cons (fe_cst (pe_bltn (v := .ty "bool") (by rfl) T.z_bool (by decide +kernel) rfl) fun _ => relD_ty) fa_nil)))))))))))))
theorem cal_is_row_1 (T : Tx g w mg ad) : Cal g P w g.K mg base 2 (He.ga g.K "is_row") [] f_is_row_1 :=
  cal_pos (ok_is_row T) T.b_is_row_1 .nil (fun _ => .nil) rfl
end
end DL
namespace DL
open PySem L2
section
variable {P : Program} {w : World} {mg : Str → Option Value} {base : Heap} {ad : Ad} {g : G}
theorem ok_Kind_init (T : Tx g w mg ad) : FnOk P w g.K mg base (L2.CX P w) 2 (He.ma g.K (He.ga g.K "Kind") "__init__") ad.d_Kind_init ["self", "name", "base", "own", "begin"] (spD g 5 d_Kind_init) :=
  fn_okD T.F_Kind_init sc_Kind_init rfl fun cdv A outer s H E hr tk => (fb_cons (fs_if (ft_not (ft_val (fe_call1 (cal_is_name_1 T) MF.mono (hr.mono (by decide)) tk (by rfl) T.g_is_name T.F_is_name.kp (fa_cons (fe_var 1) fa_nil) fk_nil))) (fb_one fs_never) fb_nil) (fb_cons (fs_if (FW.ft (fw_and (ft_cmp od_isnt (fe_var 2) fe_non (nomark _)) (fw_one (.inl rfl) (ft_not (ft_val (fe_call1 (cal_is_name_1 T) MF.mono (hr.mono (by decide)) tk (by rfl) T.g_is_name T.F_is_name.kp (fa_cons (fe_var 2) fa_nil) fk_nil)))))) (fb_one fs_never) fb_nil) (fb_cons (fs_if (ft_not (ft_val (fe_callB (cr_isi rfl T.own) (by rfl) T.z_isinstance (by decide +kernel) (fa_cons (fe_var 3) (fa_cons (fe_cst (pe_bltn (v := .ty "bool") (by rfl) T.z_bool (by decide +kernel) rfl) fun _ => relD_ty) fa_nil))))) (fb_one fs_never) fb_nil) (fb_cons (fs_fld rfl T.cl_Kind T.n_Kind_name (fe_var 0) (fe_var 1)) (fb_cons (fs_fld rfl T.cl_Kind T.n_Kind_base (fe_var 0) (fe_var 2)) (fb_cons (fs_fld rfl T.cl_Kind T.n_Kind_own (fe_var 0) (fe_var 3)) (fb_one (fs_fld rfl T.cl_Kind T.n_Kind_begin (fe_var 0) (fe_var 4)))))))))
theorem cal_Kind_init_3_own (T : Tx g w mg ad) : Cal g P w g.K mg base 2 (He.ma g.K (He.ga g.K "Kind") "__init__") ["own"] f_Kind_init_3_own :=
  cal_kw (ok_Kind_init T) T.kb_Kind_init_3_own rfl (fun h1 h2 r1 r2 => relD_Kind_init_3_own h1 h2 r1 r2)
theorem cal_Kind_init_3_own_begin (T : Tx g w mg ad) : Cal g P w g.K mg base 2 (He.ma g.K (He.ga g.K "Kind") "__init__") ["own", "begin"] f_Kind_init_3_own_begin :=
  cal_kw (ok_Kind_init T) T.kb_Kind_init_3_own_begin rfl (fun h1 h2 r1 r2 => relD_Kind_init_3_own_begin h1 h2 r1 r2)
end
end DL
namespace DL
open PySem L2
section
variable {P : Program} {w : World} {mg : Str → Option Value} {base : Heap} {ad : Ad} {g : G}
theorem ok_Part_init (T : Tx g w mg ad) : FnOk P w g.K mg base (L2.CX P w) 2 (He.ma g.K (He.ga g.K "Part") "__init__") ad.d_Part_init ["self", "up", "guarded"] (spD g 3 d_Part_init) :=
  fn_okD T.F_Part_init sc_Part_init rfl fun cdv A outer s H E hr tk => (fb_cons (fs_if (ft_not (ft_val (fe_call1 (cal_is_up_1 T) MF.mono (hr.mono (by decide)) tk (by rfl) T.g_is_up T.F_is_up.kp (fa_cons (fe_var 1) fa_nil) fk_nil))) (fb_one fs_never) fb_nil) (fb_cons (fs_if (ft_not (ft_val (fe_callB (cr_isi rfl T.own) (by rfl) T.z_isinstance (by decide +kernel) (fa_cons (fe_var 2) (fa_cons (fe_cst (pe_bltn (v := .ty "bool") (by rfl) T.z_bool (by decide +kernel) rfl) fun _ => relD_ty) fa_nil))))) (fb_one fs_never) fb_nil) (fb_cons (fs_fld rfl T.cl_Part T.n_Part_up (fe_var 0) (fe_var 1)) (fb_one (fs_fld rfl T.cl_Part T.n_Part_guarded (fe_var 0) (fe_var 2))))))
theorem cal_Part_init_2_guarded (T : Tx g w mg ad) : Cal g P w g.K mg base 2 (He.ma g.K (He.ga g.K "Part") "__init__") ["guarded"] f_Part_init_2_guarded :=
  cal_kw (ok_Part_init T) T.kb_Part_init_2_guarded rfl (fun h1 h2 r1 r2 => relD_Part_init_2_guarded h1 h2 r1 r2)
end
end DL
namespace DL
open PySem L2
section
variable {P : Program} {w : World} {mg : Str → Option Value} {base : Heap} {ad : Ad} {g : G}
theorem ok_Kind_of (T : Tx g w mg ad) : FnOk P w g.K mg base (L2.CX P w) 4 (cmAd g.K "Kind" "of") ad.d_Kind_of ["cls", "row"] (spD g 2 d_Kind_of) :=
  fn_okD T.F_Kind_of sc_Kind_of rfl fun cdv A outer s H E hr tk => (fb_cons (fs_if (ft_not (ft_val (fe_call1 (cal_is_row_1 T) MF.mono (hr.mono (by decide)) tk (by rfl) T.g_is_row T.F_is_row.kp (fa_cons (fe_var 1) fa_nil) fk_nil))) (fb_one fs_never) fb_nil) (fb_cons (fs_asg (fe_var 1) (fg_tup rfl rfl (fgs_cons (fg_name (i := 2) sc_Kind_of.nd rfl (Or.inl rfl)) (fgs_cons (fg_name (i := 3) sc_Kind_of.nd rfl (Or.inl rfl)) (fgs_cons (fg_name (i := 4) sc_Kind_of.nd rfl (Or.inl rfl)) (fgs_cons (fg_name (i := 5) sc_Kind_of.nd rfl (Or.inl rfl)) fgs_nil)))))) (fb_cons (fs_if (ft_cmp od_is (fe_var 5) fe_non (nomark _)) (fb_one (fs_ret (fe_makeL1 (i := 0) fin_freeze T.mk_Kind (cal_Kind_init_3_own T) MF.mono (hr.mono (by decide)) tk rfl (Or.inl rfl) (fa_cons (fe_var 2) (fa_cons (fe_var 3) fa_nil)) (fk_cons (fe_var 4) fk_nil)))) fb_nil) (fb_one (fs_ret (fe_makeL1 (i := 0) fin_freeze T.mk_Kind (cal_Kind_init_3_own_begin T) MF.mono (hr.mono (by decide)) tk rfl (Or.inl rfl) (fa_cons (fe_var 2) (fa_cons (fe_var 3) fa_nil)) (fk_cons (fe_var 4) (fk_cons (fe_make1 fin_freeze T.mk_Part (cal_Part_init_2_guarded T) MF.mono (hr.mono (by decide)) tk (by rfl) T.g_Part (fa_cons (fe_ix (ixr_ix rfl) (fe_var 5) fe_int (fun _ _ => rfl)) fa_nil) (fk_cons (fe_ix (ixr_ix rfl) (fe_var 5) fe_int (fun _ _ => rfl)) fk_nil)) fk_nil))))))))
theorem cal_Kind_of_2 (T : Tx g w mg ad) : Cal g P w g.K mg base 4 (cmAd g.K "Kind" "of") [] f_Kind_of_2 :=
  cal_pos (ok_Kind_of T) T.b_Kind_of_2 .nil (fun _ => .nil) rfl
end
end DL
namespace DL
open PySem L2
section
variable {P : Program} {w : World} {mg : Str → Option Value} {base : Heap} {ad : Ad} {g : G}
theorem ok_first_kind (T : Tx g w mg ad) : FnOk P w g.K mg base (L2.CX P w) 1 (He.ga g.K "first_kind") ad.d_first_kind ["kinds", "name"] (spD g 2 d_first_kind) :=
  fn_okD T.F_first_kind sc_first_kind rfl fun cdv A outer s H E hr tk => (fb_cons (fs_if (ft_not (ft_val (fe_callB (cr_isi rfl T.own) (by rfl) T.z_isinstance (by decide +kernel) (fa_cons (fe_var 1) (fa_cons (fe_cst (pe_bltn (v := .ty "str") (by rfl) T.z_str (by decide +kernel) rfl) fun _ => relD_ty) fa_nil))))) (fb_one (fs_ret fe_non)) fb_nil) (fb_cons (fs_for (passes_of rfl) rfl (fi_tup rfl (fe_var 0)) (fg_name (i := 2) sc_first_kind.nd rfl (Or.inl rfl)) (fb_one (fs_if (ft_cmp (od_eq rfl hr.units) (fe_fld rfl T.cl_Kind T.n_Kind_name (fe_var 2)) (fe_var 1) (nomark _)) (fb_one (fs_ret (fe_var 2))) fb_nil))) (fb_one (fs_ret fe_non))))
theorem cal_first_kind_2 (T : Tx g w mg ad) : Cal g P w g.K mg base 1 (He.ga g.K "first_kind") [] f_first_kind_2 :=
  cal_pos (ok_first_kind T) T.b_first_kind_2 .nil (fun _ => .nil) rfl
end
end DL
namespace DL
open PySem L2
section
variable {P : Program} {w : World} {mg : Str → Option Value} {base : Heap} {ad : Ad} {g : G}
theorem cal_Family_init_star (T : Tx g w mg ad) : Cal g P w g.K mg base 2 (He.ma g.K (He.ga g.K "Family") "__init__") [] f_Family_init_star :=
  fn_okS (ps := ["self", "maker"]) T.F_Family_init sc_Family_init rfl (fun dV kV doc pm an cdv ct h1 _ => by
    rcases h1 with ⟨_, rfl⟩ | ⟨h, _⟩
    · exact StX.bind_star2 (B := fun us => bindArgs (PySem.W.fnOf "__init__" "Family.__init__" (defArgs s_Family_init) (defBody s_Family_init) (defScope s_Family_init) .none kV doc pm an cdv ct) ⟨us, []⟩) (fun a b => rfl) (fun a b r rs => rfl)
    · exact (h rfl).elim) fun cdv A outer s H E hr tk => (fb_cons (fs_if (ft_cmp od_gt (fe_callB (cr_len rfl) (by rfl) T.z_len PySem.boot_len (fa_cons (fe_var 2) fa_nil)) (fe_cval rfl T.cr_Family T.cv_Family_MOST_KINDS (fun F => T.cw_Family_MOST_KINDS F) (pe_glob (v := .ref (g.cl "Family")) (by rfl) T.g_Family rfl)) (nomark _)) (fb_one fs_never) fb_nil) (fb_cons (fs_for (passes_of rfl) rfl (fi_enumT rfl (by rfl) T.z_enumerate (fa_cons (fe_var 2) fa_nil)) (fg_tup rfl rfl (fgs_cons (fg_name (i := 3) sc_Family_init.nd rfl (Or.inl rfl)) (fgs_cons (fg_name (i := 4) sc_Family_init.nd rfl (Or.inl rfl)) fgs_nil))) (fb_cons (fs_if (ft_cmp od_isnt (fe_call1 (cal_first_kind_2 T) MF.mono (hr.mono (by decide)) tk (by rfl) T.g_first_kind T.F_first_kind.kp (fa_cons (fe_slice rfl (fe_var 2) fo_none (fo_some (fe_var 3))) (fa_cons (fe_fld rfl T.cl_Kind T.n_Kind_name (fe_var 4)) fa_nil)) fk_nil) fe_non (nomark _)) (fb_one fs_never) fb_nil) (fb_one (fs_if (FW.ft (fw_and (ft_cmp od_isnt (fe_fld rfl T.cl_Kind T.n_Kind_base (fe_var 4)) fe_non (nomark _)) (fw_one (.inl rfl) (ft_cmp od_is (fe_call1 (cal_first_kind_2 T) MF.mono (hr.mono (by decide)) tk (by rfl) T.g_first_kind T.F_first_kind.kp (fa_cons (fe_slice rfl (fe_var 2) fo_none (fo_some (fe_var 3))) (fa_cons (fe_fld rfl T.cl_Kind T.n_Kind_base (fe_var 4)) fa_nil)) fk_nil) fe_non (nomark _))))) (fb_one fs_never) fb_nil)))) (fb_cons (fs_fld rfl T.cl_Family T.n_Family_maker (fe_var 0) (fe_var 1)) (fb_one (fs_fld rfl T.cl_Family T.n_Family_kinds (fe_var 0) (fe_var 2))))))
end
end DL
namespace DL
open PySem L2
section
variable {P : Program} {w : World} {mg : Str → Option Value} {base : Heap} {ad : Ad} {g : G}
theorem ok_Family_of (T : Tx g w mg ad) : FnOk P w g.K mg base (L2.CX P w) 4 (cmAd g.K "Family" "of") ad.d_Family_of ["cls", "maker", "kinds"] (spD g 3 d_Family_of) :=
  fn_okD T.F_Family_of sc_Family_of rfl fun cdv A outer s H E hr tk => (fb_one (fs_ret (fe_makeSL (i := 0) fin_freeze T.mk_Family (cal_Family_init_star T) MF.mono (hr.mono (by decide)) tk rfl (Or.inl rfl) (fa_cons (fe_var 1) (fa_star rfl (fe_var 2) fa_nil)))))
theorem cal_Family_of_3 (T : Tx g w mg ad) : Cal g P w g.K mg base 4 (cmAd g.K "Family" "of") [] f_Family_of_3 :=
  cal_pos (ok_Family_of T) T.b_Family_of_3 .nil (fun _ => .nil) rfl
end
end DL
namespace DL
open PySem L2
section
variable {P : Program} {w : World} {mg : Str → Option Value} {base : Heap} {ad : Ad} {g : G}
theorem ok_Maker_init (T : Tx g w mg ad) : FnOk P w g.K mg base (L2.CX P w) 2 (He.ma g.K (He.ga g.K "Maker") "__init__") ad.d_Maker_init ["self", "place", "key", "store", "stopped", "fits", "misfit", "compare", "unlike", "unready", "again"] (spD g 11 d_Maker_init) :=
  fn_okD T.F_Maker_init sc_Maker_init rfl fun cdv A outer s H E hr tk => (fb_cons (fs_set (i := 11) sc_Maker_init.nd rfl (Or.inl rfl) (fe_tup (fa_cons (fe_var 1) (fa_cons (fe_var 2) (fa_cons (fe_var 3) (fa_cons (fe_var 4) (fa_cons (fe_var 5) (fa_cons (fe_var 6) (fa_cons (fe_var 7) (fa_cons (fe_var 8) (fa_cons (fe_var 9) (fa_cons (fe_var 10) fa_nil)))))))))))) (fb_cons (fs_for (passes_of rfl) rfl (fi_zip rfl (by rfl) T.z_zip (fa_cons (fe_cval rfl T.cr_Maker T.cv_Maker_RULES (fun F => T.cw_Maker_RULES F) (pe_glob (v := .ref (g.cl "Maker")) (by rfl) T.g_Maker rfl)) (fa_cons (fe_var 11) fa_nil))) (fg_tup rfl rfl (fgs_cons (fg_name (i := 12) sc_Maker_init.nd rfl (Or.inl rfl)) (fgs_cons (fg_name (i := 13) sc_Maker_init.nd rfl (Or.inl rfl)) fgs_nil))) (fb_one (fs_if (ft_not (ft_val (fe_call1 (cal_is_choice_2 T) MF.mono (hr.mono (by decide)) tk (by rfl) T.g_is_choice T.F_is_choice.kp (fa_cons (fe_var 12) (fa_cons (fe_var 13) fa_nil)) fk_nil))) (fb_one fs_never) fb_nil))) (fb_cons (fs_fld rfl T.cl_Maker T.n_Maker_place (fe_var 0) (fe_var 1)) (fb_cons (fs_fld rfl T.cl_Maker T.n_Maker_key (fe_var 0) (fe_var 2)) (fb_cons (fs_fld rfl T.cl_Maker T.n_Maker_store (fe_var 0) (fe_var 3)) (fb_cons (fs_fld rfl T.cl_Maker T.n_Maker_stopped (fe_var 0) (fe_var 4)) (fb_cons (fs_fld rfl T.cl_Maker T.n_Maker_fits (fe_var 0) (fe_var 5)) (fb_cons (fs_fld rfl T.cl_Maker T.n_Maker_misfit (fe_var 0) (fe_var 6)) (fb_cons (fs_fld rfl T.cl_Maker T.n_Maker_compare (fe_var 0) (fe_var 7)) (fb_cons (fs_fld rfl T.cl_Maker T.n_Maker_unlike (fe_var 0) (fe_var 8)) (fb_cons (fs_fld rfl T.cl_Maker T.n_Maker_unready (fe_var 0) (fe_var 9)) (fb_one (fs_fld rfl T.cl_Maker T.n_Maker_again (fe_var 0) (fe_var 10))))))))))))))
theorem cal_Maker_init_1_place_key_store_stopped_fits_misfit_compare_unlike_unready_again (T : Tx g w mg ad) : Cal g P w g.K mg base 2 (He.ma g.K (He.ga g.K "Maker") "__init__") ["place", "key", "store", "stopped", "fits", "misfit", "compare", "unlike", "unready", "again"] f_Maker_init_1_place_key_store_stopped_fits_misfit_compare_unlike_unready_again :=
  cal_kw (ok_Maker_init T) T.kb_Maker_init_1_place_key_store_stopped_fits_misfit_compare_unlike_unready_again rfl (fun h1 h2 r1 r2 => relD_Maker_init_1_place_key_store_stopped_fits_misfit_compare_unlike_unready_again h1 h2 r1 r2)
end
end DL
namespace DL
open PySem L2
section
variable {P : Program} {w : World} {mg : Str → Option Value} {base : Heap} {ad : Ad} {g : G}
theorem ok_read_family (T : Tx g w mg ad) : FnOk P w g.K mg base (L2.CX P w) 5 (He.ga g.K "read_family") ad.d_read_family ["text"] (spD g 1 d_read_family) :=
  fn_okD T.F_read_family sc_read_family rfl fun cdv A outer s H E hr tk => (fb_cons (fs_if (ft_not (ft_val (fe_callB (cr_isi rfl T.own) (by rfl) T.z_isinstance (by decide +kernel) (fa_cons (fe_var 0) (fa_cons (fe_cst (pe_bltn (v := .ty "str") (by rfl) T.z_str (by decide +kernel) rfl) fun _ => relD_ty) fa_nil))))) (fb_one fs_never) fb_nil) (fb_cons (fs_set (i := 1) sc_read_family.nd rfl (Or.inl rfl) (fe_m1 F.slot_str_split F.type_str_split mr_split (fe_var 0) fe_str)) (fb_cons (fs_set (i := 2) sc_read_family.nd rfl (Or.inl rfl) fe_dicN) (fb_cons (fs_for (passes_of rfl) rfl (fi_enumT rfl (by rfl) T.z_enumerate (fa_cons (fe_cval rfl T.cr_Maker T.cv_Maker_RULES (fun F => T.cw_Maker_RULES F) (pe_glob (v := .ref (g.cl "Maker")) (by rfl) T.g_Maker rfl)) fa_nil)) (fg_tup rfl rfl (fgs_cons (fg_name (i := 3) sc_read_family.nd rfl (Or.inl rfl)) (fgs_cons (fg_name (i := 4) sc_read_family.nd rfl (Or.inl rfl)) fgs_nil))) (fb_cons (fs_if (ft_cmp od_ge (fe_var 3) (fe_callB (cr_len rfl) (by rfl) T.z_len PySem.boot_len (fa_cons (fe_var 1) fa_nil)) (nomark _)) (fb_one fs_never) fb_nil) (fb_cons (fs_set (i := 5) sc_read_family.nd rfl (Or.inl rfl) (fe_call1 (cal_read_rule_2 T) MF.mono (hr.mono (by decide)) tk (by rfl) T.g_read_rule T.F_read_rule.kp (fa_cons (fe_var 4) (fa_cons (fe_ix (ixr_ix rfl) (fe_var 1) (fe_var 3) (fun _ _ => rfl)) fa_nil)) fk_nil)) (fb_cons (fs_if (ft_cmp od_is (fe_var 5) fe_non (nomark _)) (fb_one fs_never) fb_nil) (fb_one (fs_dput (hu_of hr) (fe_var 2) (fe_var 4) (fe_var 5))))))) (fb_cons (fs_set (i := 6) sc_read_family.nd rfl (Or.inl rfl) (fe_call1 (cal_read_rows_1 T) MF.mono (hr.mono (by decide)) tk (by rfl) T.g_read_rows T.F_read_rows.kp (fa_cons (fe_var 1) fa_nil) fk_nil)) (fb_cons (fs_setLc (i := 7) (ow := [("row", 9)]) out_F rfl sc_read_family.nd rfl rfl (sw_true rfl rfl rfl (by decide +kernel)) (fi_list rfl (fe_var 6)) (blkOk_by (own := [("row", 9)]) (N := N_read_family) (sc := defScope s_read_family) (by decide +kernel)) (fun _ _ _ _ _ => (fgw_name (i := 9) sc_read_family.nd rfl (Or.inl rfl) (by decide))) (fun _ _ _ _ _ => fts_nil) (fun _ _ _ _ _ => (fe_cmeth (cal_Kind_of_2 T) MF.mono (hr.mono (by decide)) takes_blk (pe_glob (v := .ref (g.cl "Kind")) (by rfl) T.g_Kind rfl) T.cr_Kind T.cm_Kind_of (fa_cons (fe_var 9) fa_nil))) MB.mono MB.mono) (fb_one (fs_try rfl rfl sc_read_family.nd tk T.exs MB.mono (fun W pn xe tk1 po1 => (fb_one (fs_retD (is := [2]) (fe_cmeth (cal_Family_of_3 T) MF.mono (hr.mono (by decide)) tk1 (pe_glob (v := .ref (g.cl "Family")) (by rfl) T.g_Family rfl) T.cr_Family T.cm_Family_of (fa_cons (fe_makeKK (i := 2) fin_freeze T.mk_Maker (cal_only (cal_Maker_init_1_place_key_store_stopped_fits_misfit_compare_unlike_unready_again T)) (fun _ => MF.mono) (hr.mono (by decide)) tk1 (by rfl) T.g_Maker rfl (by first | exact Or.inl rfl | exact Or.inr (Or.inl rfl) | exact Or.inr (Or.inr rfl))) (fa_cons (fe_var 7) fa_nil)))))) (ClzOk.named (z := clzD g ⟨"OneError", some 8, hnever⟩) rfl rfl rfl ⟨by rfl, by decide, .inl T.g_OneError⟩ (fun a oe cls d pn hz hf => su_never) ClzOk.nil)))))))))
theorem cal_read_family_1 (T : Tx g w mg ad) : Cal g P w g.K mg base 5 (He.ga g.K "read_family") [] f_read_family_1 :=
  cal_pos (ok_read_family T) T.b_read_family_1 .nil (fun _ => .nil) rfl
end
end DL
namespace DL
open PySem L2
section
variable {P : Program} {w : World} {mg : Str → Option Value} {base : Heap} {ad : Ad} {g : G}
theorem ok_Kind_row (T : Tx g w mg ad) : FnOk P w g.K mg base (L2.CX P w) 1 (He.ma g.K (He.ga g.K "Kind") "row") ad.d_Kind_row ["self"] (spD g 1 d_Kind_row) :=
  fn_okD T.F_Kind_row sc_Kind_row rfl fun cdv A outer s H E hr tk => (fb_cons (fs_if (ft_cmp od_is (fe_fld rfl T.cl_Kind T.n_Kind_begin (fe_var 0)) fe_non (nomark _)) (fb_one (fs_ret (fe_tup (fa_cons (fe_fld rfl T.cl_Kind T.n_Kind_name (fe_var 0)) (fa_cons (fe_fld rfl T.cl_Kind T.n_Kind_base (fe_var 0)) (fa_cons (fe_fld rfl T.cl_Kind T.n_Kind_own (fe_var 0)) (fa_cons fe_non fa_nil))))))) fb_nil) (fb_one (fs_ret (fe_tup (fa_cons (fe_fld rfl T.cl_Kind T.n_Kind_name (fe_var 0)) (fa_cons (fe_fld rfl T.cl_Kind T.n_Kind_base (fe_var 0)) (fa_cons (fe_fld rfl T.cl_Kind T.n_Kind_own (fe_var 0)) (fa_cons (fe_tup (fa_cons (fe_fld rfl T.cl_Part T.n_Part_up (fe_fld rfl T.cl_Kind T.n_Kind_begin (fe_var 0))) (fa_cons (fe_fld rfl T.cl_Part T.n_Part_guarded (fe_fld rfl T.cl_Kind T.n_Kind_begin (fe_var 0))) fa_nil))) fa_nil))))))))
theorem cal_Kind_row_1 (T : Tx g w mg ad) : Cal g P w g.K mg base 1 (He.ma g.K (He.ga g.K "Kind") "row") [] f_Kind_row_1 :=
  cal_pos (ok_Kind_row T) T.b_Kind_row_1 .nil (fun _ => .nil) rfl
end
end DL
namespace DL
open PySem L2
section
variable {P : Program} {w : World} {mg : Str → Option Value} {base : Heap} {ad : Ad} {g : G}
theorem ok_Maker_written (T : Tx g w mg ad) : FnOk P w g.K mg base (L2.CX P w) 1 (He.ma g.K (He.ga g.K "Maker") "written") ad.d_Maker_written ["self"] (spD g 1 d_Maker_written) :=
  fn_okD T.F_Maker_written sc_Maker_written rfl fun cdv A outer s H E hr tk => (fb_one (fs_ret (fe_tup (fa_cons (fe_fld rfl T.cl_Maker T.n_Maker_place (fe_var 0)) (fa_cons (fe_fld rfl T.cl_Maker T.n_Maker_key (fe_var 0)) (fa_cons (fe_fld rfl T.cl_Maker T.n_Maker_store (fe_var 0)) (fa_cons (fe_fld rfl T.cl_Maker T.n_Maker_stopped (fe_var 0)) (fa_cons (fe_fld rfl T.cl_Maker T.n_Maker_fits (fe_var 0)) (fa_cons (fe_fld rfl T.cl_Maker T.n_Maker_misfit (fe_var 0)) (fa_cons (fe_fld rfl T.cl_Maker T.n_Maker_compare (fe_var 0)) (fa_cons (fe_fld rfl T.cl_Maker T.n_Maker_unlike (fe_var 0)) (fa_cons (fe_fld rfl T.cl_Maker T.n_Maker_unready (fe_var 0)) (fa_cons (fe_fld rfl T.cl_Maker T.n_Maker_again (fe_var 0)) fa_nil)))))))))))))
theorem cal_Maker_written_1 (T : Tx g w mg ad) : Cal g P w g.K mg base 1 (He.ma g.K (He.ga g.K "Maker") "written") [] f_Maker_written_1 :=
  cal_pos (ok_Maker_written T) T.b_Maker_written_1 .nil (fun _ => .nil) rfl
end
end DL
namespace DL
open PySem L2
section
variable {P : Program} {w : World} {mg : Str → Option Value} {base : Heap} {ad : Ad} {g : G}
theorem ok_show_kind (T : Tx g w mg ad) : FnOk P w g.K mg base (L2.CX P w) 1 (He.ga g.K "show_kind") ad.d_show_kind ["kind"] (spD g 1 d_show_kind) :=
  fn_okD T.F_show_kind sc_show_kind rfl fun cdv A outer s H E hr tk => (fb_cons (fs_set (i := 1) sc_show_kind.nd rfl (Or.inl rfl) (fe_op (od_add rfl) fe_str (fe_fld rfl T.cl_Kind T.n_Kind_name (fe_var 0)))) (fb_consC (fs_if (ft_cmp od_isnt (fe_fld rfl T.cl_Kind T.n_Kind_base (fe_var 0)) fe_non (nomark _)) (fb_one (fs_set (i := 1) sc_show_kind.nd rfl (Or.inl rfl) (fe_op (od_add rfl) (fe_op (od_add rfl) (fe_op (od_add rfl) (fe_var 1) fe_str) (fe_fld rfl T.cl_Kind T.n_Kind_base (fe_var 0))) fe_str))) fb_nil) (fb_consC (fs_if (ft_val (fe_fld rfl T.cl_Kind T.n_Kind_own (fe_var 0))) (fb_one (fs_set (i := 1) sc_show_kind.nd rfl (Or.inl rfl) (fe_op (od_add rfl) (fe_var 1) fe_str))) fb_nil) (fb_cons (fs_if (ft_cmp od_is (fe_fld rfl T.cl_Kind T.n_Kind_begin (fe_var 0)) fe_non (nomark _)) (fb_one (fs_ret (fe_lst (fa_cons (fe_var 1) fa_nil)))) fb_nil) (fb_cons (fs_if (ft_val (fe_fld rfl T.cl_Part T.n_Part_guarded (fe_fld rfl T.cl_Kind T.n_Kind_begin (fe_var 0)))) (fb_one (fs_ret (fe_lst (fa_cons (fe_var 1) (fa_cons (fe_op (od_add rfl) (fe_op (od_add rfl) fe_str (fe_fld rfl T.cl_Part T.n_Part_up (fe_fld rfl T.cl_Kind T.n_Kind_begin (fe_var 0)))) fe_str) fa_nil))))) fb_nil) (fb_one (fs_ret (fe_lst (fa_cons (fe_var 1) (fa_cons (fe_op (od_add rfl) fe_str (fe_fld rfl T.cl_Part T.n_Part_up (fe_fld rfl T.cl_Kind T.n_Kind_begin (fe_var 0)))) fa_nil))))))))))
theorem cal_show_kind_1 (T : Tx g w mg ad) : Cal g P w g.K mg base 1 (He.ga g.K "show_kind") [] f_show_kind_1 :=
  cal_pos (ok_show_kind T) T.b_show_kind_1 .nil (fun _ => .nil) rfl
end
end DL
namespace DL
open PySem L2
section
variable {P : Program} {w : World} {mg : Str → Option Value} {base : Heap} {ad : Ad} {g : G}
theorem ok_show_family (T : Tx g w mg ad) : FnOk P w g.K mg base (L2.CX P w) 2 (He.ga g.K "show_family") ad.d_show_family ["family"] (spD g 1 d_show_family) :=
  fn_okD T.F_show_family sc_show_family rfl fun cdv A outer s H E hr tk => (fb_cons (fs_set (i := 1) sc_show_family.nd rfl (Or.inl rfl) (fe_lstN fa_nil)) (fb_cons (fs_for (passes_of rfl) rfl (fi_zip rfl (by rfl) T.z_zip (fa_cons (fe_cval rfl T.cr_Maker T.cv_Maker_RULES (fun F => T.cw_Maker_RULES F) (pe_glob (v := .ref (g.cl "Maker")) (by rfl) T.g_Maker rfl)) (fa_cons (fe_meth0 (cal_Maker_written_1 T) MF.mono (hr.mono (by decide)) tk rfl T.cl_Maker T.m_Maker_written (fe_fld rfl T.cl_Family T.n_Family_maker (fe_var 0)) fk_nil) fa_nil))) (fg_tup rfl rfl (fgs_cons (fg_name (i := 2) sc_show_family.nd rfl (Or.inl rfl)) (fgs_cons (fg_name (i := 3) sc_show_family.nd rfl (Or.inl rfl)) fgs_nil))) (fb_one (fs_expr (fe_append rfl (fe_var 1) (fe_op (od_add rfl) (fe_op (od_add rfl) (fe_var 2) fe_str) (fe_var 3)))))) (fb_cons (fs_for (passes_of rfl) rfl (fi_tup rfl (fe_fld rfl T.cl_Family T.n_Family_kinds (fe_var 0))) (fg_name (i := 4) sc_show_family.nd rfl (Or.inl rfl)) (fb_one (fs_expr (fe_extend rfl (fe_var 1) (fe_call1 (cal_show_kind_1 T) MF.mono (hr.mono (by decide)) tk (by rfl) T.g_show_kind T.F_show_kind.kp (fa_cons (fe_var 4) fa_nil) fk_nil))))) (fb_one (fs_retD (is := [1]) (fe_m1 F.slot_str_join F.type_str_join (mr_join rfl) fe_str (fe_var 1)))))))
theorem cal_show_family_1 (T : Tx g w mg ad) : Cal g P w g.K mg base 2 (He.ga g.K "show_family") [] f_show_family_1 :=
  cal_pos (ok_show_family T) T.b_show_family_1 .nil (fun _ => .nil) rfl
end
end DL
namespace DL
open PySem L2
section
variable {P : Program} {w : World} {mg : Str → Option Value} {base : Heap} {ad : Ad} {g : G}
theorem ok_Kind_eq (T : Tx g w mg ad) : FnOk P w g.K mg base (L2.CX P w) 2 (He.ma g.K (He.ga g.K "Kind") "__eq__") ad.d_Kind_eq ["self", "other"] (spD g 2 d_Kind_eq) :=
  fn_okD T.F_Kind_eq sc_Kind_eq rfl fun cdv A outer s H E hr tk => (fb_one (fs_ret (fe_and (fe_callB (cr_isi rfl T.own) (by rfl) T.z_isinstance (by decide +kernel) (fa_cons (fe_var 1) (fa_cons (fe_cst (pe_glob (v := .ref (g.cl "Kind")) (by rfl) T.g_Kind rfl) fun _ => relD_cls) fa_nil))) (fe_one (fe_cmp (od_eq rfl hr.units) (fe_meth0 (cal_Kind_row_1 T) MF.mono (hr.mono (by decide)) tk rfl T.cl_Kind T.m_Kind_row (fe_var 0) fk_nil) (fe_meth0 (cal_Kind_row_1 T) MF.mono (hr.mono (by decide)) tk rfl T.cl_Kind T.m_Kind_row (fe_var 1) fk_nil) (nomark _))))))
theorem cal_Kind_eq_2 (T : Tx g w mg ad) : Cal g P w g.K mg base 2 (He.ma g.K (He.ga g.K "Kind") "__eq__") [] f_Kind_eq_2 :=
  cal_pos (ok_Kind_eq T) T.b_Kind_eq_2 .nil (fun _ => .nil) rfl
end
end DL
namespace DL
open PySem L2
section
variable {P : Program} {w : World} {mg : Str → Option Value} {base : Heap} {ad : Ad} {g : G}
theorem ok_Maker_eq (T : Tx g w mg ad) : FnOk P w g.K mg base (L2.CX P w) 2 (He.ma g.K (He.ga g.K "Maker") "__eq__") ad.d_Maker_eq ["self", "other"] (spD g 2 d_Maker_eq) :=
  fn_okD T.F_Maker_eq sc_Maker_eq rfl fun cdv A outer s H E hr tk => (fb_one (fs_ret (fe_and (fe_callB (cr_isi rfl T.own) (by rfl) T.z_isinstance (by decide +kernel) (fa_cons (fe_var 1) (fa_cons (fe_cst (pe_glob (v := .ref (g.cl "Maker")) (by rfl) T.g_Maker rfl) fun _ => relD_cls) fa_nil))) (fe_one (fe_cmp (od_eq rfl hr.units) (fe_meth0 (cal_Maker_written_1 T) MF.mono (hr.mono (by decide)) tk rfl T.cl_Maker T.m_Maker_written (fe_var 0) fk_nil) (fe_meth0 (cal_Maker_written_1 T) MF.mono (hr.mono (by decide)) tk rfl T.cl_Maker T.m_Maker_written (fe_var 1) fk_nil) (nomark _))))))
theorem cal_Maker_eq_2 (T : Tx g w mg ad) : Cal g P w g.K mg base 2 (He.ma g.K (He.ga g.K "Maker") "__eq__") [] f_Maker_eq_2 :=
  cal_pos (ok_Maker_eq T) T.b_Maker_eq_2 .nil (fun _ => .nil) rfl
end
end DL
namespace DL
open PySem L2
section
variable {P : Program} {w : World} {mg : Str → Option Value} {base : Heap} {ad : Ad} {g : G}
theorem ok_Family_eq (T : Tx g w mg ad) : FnOk P w g.K mg base (L2.CX P w) 4 (He.ma g.K (He.ga g.K "Family") "__eq__") ad.d_Family_eq ["self", "other"] (spD g 2 d_Family_eq) :=
  fn_okD T.F_Family_eq sc_Family_eq rfl fun cdv A outer s H E hr tk => (fb_one (fs_ret (fe_and (fe_callB (cr_isi rfl T.own) (by rfl) T.z_isinstance (by decide +kernel) (fa_cons (fe_var 1) (fa_cons (fe_cst (pe_glob (v := .ref (g.cl "Family")) (by rfl) T.g_Family rfl) fun _ => relD_cls) fa_nil))) (fe_and (fe_cmpM (od_own rfl T.own T.eq_Maker (cal_Maker_eq_2 T) MF.mono (hr.mono (by decide))) (fe_fld rfl T.cl_Family T.n_Family_maker (fe_var 0)) (fe_fld rfl T.cl_Family T.n_Family_maker (fe_var 1)) (nomark _)) (fe_one (fe_cmpM (od_tup rfl T.own T.eq_Kind (cal_Kind_eq_2 T) (hr.mono (by decide))) (fe_fld rfl T.cl_Family T.n_Family_kinds (fe_var 0)) (fe_fld rfl T.cl_Family T.n_Family_kinds (fe_var 1)) (nomark _)))))))
theorem cal_Family_eq_2 (T : Tx g w mg ad) : Cal g P w g.K mg base 4 (He.ma g.K (He.ga g.K "Family") "__eq__") [] f_Family_eq_2 :=
  cal_pos (ok_Family_eq T) T.b_Family_eq_2 .nil (fun _ => .nil) rfl
end
end DL
namespace DL
open PySem L2
section
variable {P : Program} {w : World} {mg : Str → Option Value} {base : Heap} {ad : Ad} {g : G}
theorem ok_maker (T : Tx g w mg ad) : FnOk P w g.K mg base (L2.CX P w) 4 (He.ga g.K "_law_maker") ad.d_maker ["_law_rules_here"] (spD g 1 d_maker) :=
  fn_okD T.F_maker sc_maker rfl fun cdv A outer s H E hr tk => (fb_cons (fs_setLc (i := 1) (ow := [("_law_row", 2)]) out_F rfl sc_maker.nd rfl rfl (sw_true rfl rfl rfl (by decide +kernel)) (fi_list rfl (fe_call0 (cal_table_0 T) MF.mono (hr.mono (by decide)) tk (by rfl) T.g_table T.F_table.kp fk_nil)) (blkOk_by (own := [("_law_row", 2)]) (N := N_maker) (sc := defScope s_maker) (by decide +kernel)) (fun _ _ _ _ _ => (fgw_name (i := 2) sc_maker.nd rfl (Or.inl rfl) (by decide))) (fun _ _ _ _ _ => fts_nil) (fun _ _ _ _ _ => (fe_dget (hu_of hr) (fe_var 0) (fe_ix (ixr_ix rfl) (fe_var 2) fe_int (fun _ _ => rfl)) (fun _ _ => rfl))) MB.mono MB.mono) (fb_one (fs_ret (fe_make0 fin_freeze T.mk_Maker (cal_Maker_init_1_place_key_store_stopped_fits_misfit_compare_unlike_unready_again T) MF.mono (hr.mono (by decide)) tk (by rfl) T.g_Maker (fk_cons (fe_ix (ixr_ix rfl) (fe_var 1) fe_int (fun _ _ => rfl)) (fk_cons (fe_ix (ixr_ix rfl) (fe_var 1) fe_int (fun _ _ => rfl)) (fk_cons (fe_ix (ixr_ix rfl) (fe_var 1) fe_int (fun _ _ => rfl)) (fk_cons (fe_ix (ixr_ix rfl) (fe_var 1) fe_int (fun _ _ => rfl)) (fk_cons (fe_ix (ixr_ix rfl) (fe_var 1) fe_int (fun _ _ => rfl)) (fk_cons (fe_ix (ixr_ix rfl) (fe_var 1) fe_int (fun _ _ => rfl)) (fk_cons (fe_ix (ixr_ix rfl) (fe_var 1) fe_int (fun _ _ => rfl)) (fk_cons (fe_ix (ixr_ix rfl) (fe_var 1) fe_int (fun _ _ => rfl)) (fk_cons (fe_ix (ixr_ix rfl) (fe_var 1) fe_int (fun _ _ => rfl)) (fk_cons (fe_ix (ixr_ix rfl) (fe_var 1) fe_int (fun _ _ => rfl)) fk_nil))))))))))))))
theorem cal_maker_1 (T : Tx g w mg ad) : Cal g P w g.K mg base 4 (He.ga g.K "_law_maker") [] f_maker_1 :=
  cal_pos (ok_maker T) T.b_maker_1 .nil (fun _ => .nil) rfl
end
end DL
namespace DL
open PySem L2
section
variable {P : Program} {w : World} {mg : Str → Option Value} {base : Heap} {ad : Ad} {g : G}
theorem ok_family (T : Tx g w mg ad) : FnOk P w g.K mg base (L2.CX P w) 5 (He.ga g.K "_law_family") ad.d_family ["_law_rules_here", "_law_rows_here"] (spD g 2 d_family) :=
  fn_okD T.F_family sc_family rfl fun cdv A outer s H E hr tk => (fb_one (fs_ret (fe_cmeth (cal_Family_of_3 T) MF.mono (hr.mono (by decide)) tk (pe_glob (v := .ref (g.cl "Family")) (by rfl) T.g_Family rfl) T.cr_Family T.cm_Family_of (fa_cons (fe_call1 (cal_maker_1 T) MF.mono (hr.mono (by decide)) tk (by rfl) T.g_maker T.F_maker.kp (fa_cons (fe_var 0) fa_nil) fk_nil) (fa_cons (fe_lc (ow := [("_law_row", 2)]) out_F rfl sc_family.nd (fi_list rfl (fe_var 1)) (blkOk_by (own := [("_law_row", 2)]) (N := N_family) (sc := defScope s_family) (by decide +kernel)) (fun _ _ _ _ _ => (fgw_name (i := 2) sc_family.nd rfl (Or.inl rfl) (by decide))) (fun _ _ _ _ _ => fts_nil) (fun _ _ _ _ _ => (fe_cmeth (cal_Kind_of_2 T) MF.mono (hr.mono (by decide)) takes_blk (pe_glob (v := .ref (g.cl "Kind")) (by rfl) T.g_Kind rfl) T.cr_Kind T.cm_Kind_of (fa_cons (fe_var 2) fa_nil))) MB.mono MB.mono) fa_nil)))))
theorem cal_family_2 (T : Tx g w mg ad) : Cal g P w g.K mg base 5 (He.ga g.K "_law_family") [] f_family_2 :=
  cal_pos (ok_family T) T.b_family_2 .nil (fun _ => .nil) rfl
end
end DL
namespace DL
open PySem L2
section
variable {P : Program} {w : World} {mg : Str → Option Value} {base : Heap} {ad : Ad} {g : G}
theorem ok_law (T : Tx g w mg ad) : FnOk P w g.K mg base (L2.CX P w) 7 (He.ga g.K "law") ad.d_law ["_law_script"] (spD g 1 d_law) :=
  fn_okD T.F_law sc_law rfl fun cdv A outer s H E hr tk => (fb_cons (fs_set (i := 1) sc_law.nd rfl (Or.inl rfl) (fe_call1 (cal_bag_1 T) MF.mono (hr.mono (by decide)) tk (by rfl) T.g_bag T.F_bag.kp (fa_cons (fe_var 0) fa_nil) fk_nil)) (fb_cons (fs_set (i := 2) sc_law.nd rfl (Or.inr rfl) (fe_call1 (cal_rules_1 T) MF.mono (hr.mono (by decide)) tk (by rfl) T.g_rules T.F_rules.kp (fa_cons (fe_var 1) fa_nil) fk_nil)) (fb_cons (fs_set (i := 3) sc_law.nd rfl (Or.inl rfl) (fe_call1 (cal_rows_2 T) MF.mono (hr.mono (by decide)) tk (by rfl) T.g_rows T.F_rows.kp (fa_cons (fe_var 1) (fa_cons (fe_op od_sub (fe_call1 (cal_many_1 T) MF.mono (hr.mono (by decide)) tk (by rfl) T.g_many T.F_many.kp (fa_cons (fe_var 1) fa_nil) fk_nil) (fe_call1 (cal_draw_2 T) MF.mono (hr.mono (by decide)) tk (by rfl) T.g_draw T.F_draw.kp (fa_cons (fe_var 1) (fa_cons fe_int fa_nil)) fk_nil)) fa_nil)) fk_nil)) (fb_cons (fs_set (i := 4) sc_law.nd rfl (Or.inl rfl) (fe_m1 F.slot_str_join F.type_str_join (mr_join rfl) fe_str (fe_call1 (cal_shown_2 T) MF.mono (hr.mono (by decide)) tk (by rfl) T.g_shown T.F_shown.kp (fa_cons (fe_var 2) (fa_cons (fe_var 3) fa_nil)) fk_nil))) (fb_cons (fs_set (i := 5) sc_law.nd rfl (Or.inl rfl) (fe_call1 (cal_read_family_1 T) MF.mono (hr.mono (by decide)) tk (by rfl) T.g_read_family T.F_read_family.kp (fa_cons (fe_var 4) fa_nil) fk_nil)) (fb_cons (fs_if (ft_cmp (od_ne rfl hr.units) (fe_lc (ow := [("_law_kd", 6)]) out_F rfl sc_law.nd (fi_list rfl (fe_callTy (cr_list rfl) (by rfl) T.z_list (by decide +kernel) (fa_cons (fe_fld rfl T.cl_Family T.n_Family_kinds (fe_var 5)) fa_nil))) (blkOk_by (own := [("_law_kd", 6)]) (N := N_law) (sc := defScope s_law) (by decide +kernel)) (fun _ _ _ _ _ => (fgw_name (i := 6) sc_law.nd rfl (Or.inl rfl) (by decide))) (fun _ _ _ _ _ => fts_nil) (fun _ _ _ _ _ => (fe_meth0 (cal_Kind_row_1 T) MF.mono (hr.mono (by decide)) takes_blk rfl T.cl_Kind T.m_Kind_row (fe_var 6) fk_nil)) MB.mono MB.mono) (fe_var 3) (nomark _)) (fb_one (fs_ret fe_bl)) fb_nil) (fb_cons (fs_if (ft_cmp (od_ne rfl hr.units) (fe_meth0 (cal_Maker_written_1 T) MF.mono (hr.mono (by decide)) tk rfl T.cl_Maker T.m_Maker_written (fe_fld rfl T.cl_Family T.n_Family_maker (fe_var 5)) fk_nil) (fe_callTy (cr_tuple rfl) (by rfl) T.z_tuple (by decide +kernel) (fa_cons (fe_lc (ow := [("_law_row", 7)]) out_F rfl sc_law.nd (fi_list rfl (fe_call0 (cal_table_0 T) MF.mono (hr.mono (by decide)) tk (by rfl) T.g_table T.F_table.kp fk_nil)) (blkOk_by (own := [("_law_row", 7)]) (N := N_law) (sc := defScope s_law) (by decide +kernel)) (fun _ _ _ _ _ => (fgw_name (i := 7) sc_law.nd rfl (Or.inl rfl) (by decide))) (fun _ _ _ _ _ => fts_nil) (fun _ _ _ _ _ => (fe_dget (hu_of hr) (fe_var 2) (fe_ix (ixr_ix rfl) (fe_var 7) fe_int (fun _ _ => rfl)) (fun _ _ => rfl))) MB.mono MB.mono) fa_nil)) (nomark _)) (fb_one (fs_ret fe_bl)) fb_nil) (fb_one (fs_ret (fe_and (fe_cmpM (od_own rfl T.own T.eq_Family (cal_Family_eq_2 T) MF.mono (hr.mono (by decide))) (fe_var 5) (fe_call1 (cal_family_2 T) MF.mono (hr.mono (by decide)) tk (by rfl) T.g_family T.F_family.kp (fa_cons (fe_var 2) (fa_cons (fe_var 3) fa_nil)) fk_nil) (nomark _)) (fe_one (fe_cmp (od_eq rfl hr.units) (fe_call1 (cal_show_family_1 T) MF.mono (hr.mono (by decide)) tk (by rfl) T.g_show_family T.F_show_family.kp (fa_cons (fe_var 5) fa_nil) fk_nil) (fe_var 4) (nomark _)))))))))))))
end
end DL
namespace DL
open PySem L2
def fbs : List (PySem.W.Frag → Bool) := [
  fun K => decide (PySem.W.nsIn K mainGlobals "_law_bag" = some (some (.ref (He.ga K "_law_bag")))),
  fun K => decide (PySem.W.nsIn K mainGlobals "_law_table" = some (some (.ref (He.ga K "_law_table")))),
  fun K => decide (PySem.W.nsIn K mainGlobals "_law_mixed" = some (some (.ref (He.ga K "_law_mixed")))),
  fun K => decide (PySem.W.nsIn K mainGlobals "_law_draw" = some (some (.ref (He.ga K "_law_draw")))),
  fun K => decide (PySem.W.nsIn K mainGlobals "_law_rules" = some (some (.ref (He.ga K "_law_rules")))),
  fun K => decide (PySem.W.nsIn K mainGlobals "_law_word" = some (some (.ref (He.ga K "_law_word")))),
  fun K => decide (PySem.W.nsIn K mainGlobals "_law_short" = some (some (.ref (He.ga K "_law_short")))),
  fun K => decide (PySem.W.nsIn K mainGlobals "_law_fresh" = some (some (.ref (He.ga K "_law_fresh")))),
  fun K => decide (PySem.W.nsIn K mainGlobals "_law_begin" = some (some (.ref (He.ga K "_law_begin")))),
  fun K => decide (PySem.W.nsIn K mainGlobals "_law_rows" = some (some (.ref (He.ga K "_law_rows")))),
  fun K => decide (PySem.W.nsIn K mainGlobals "_law_many" = some (some (.ref (He.ga K "_law_many")))),
  fun K => decide (PySem.W.nsIn K mainGlobals "_law_shown" = some (some (.ref (He.ga K "_law_shown")))),
  fun K => decide (PySem.W.nsIn K mainGlobals "is_choice" = some (some (.ref (He.ga K "is_choice")))),
  fun K => decide (PySem.W.nsIn K mainGlobals "read_rule" = some (some (.ref (He.ga K "read_rule")))),
  fun K => decide (PySem.W.nsIn K mainGlobals "is_name" = some (some (.ref (He.ga K "is_name")))),
  fun K => decide (PySem.W.nsIn K mainGlobals "read_kind" = some (some (.ref (He.ga K "read_kind")))),
  fun K => decide (PySem.W.nsIn K mainGlobals "read_begin" = some (some (.ref (He.ga K "read_begin")))),
  fun K => decide (PySem.W.nsIn K mainGlobals "read_rows" = some (some (.ref (He.ga K "read_rows")))),
  fun K => decide (PySem.W.nsIn K mainGlobals "is_up" = some (some (.ref (He.ga K "is_up")))),
  fun K => decide (PySem.W.nsIn K mainGlobals "is_row" = some (some (.ref (He.ga K "is_row")))),
  fun K => decide (PySem.W.findIn K (.ref (He.ga K "Kind")) "__init__" = some (some (.ref (He.ma K (He.ga K "Kind") "__init__")))) && (PySem.W.isFn K (.ref (He.ma K (He.ga K "Kind") "__init__")) && PySem.W.keepIn K (.ref (He.ma K (He.ga K "Kind") "__init__"))),
  fun K => decide (PySem.W.findIn K (.ref (He.ga K "Part")) "__init__" = some (some (.ref (He.ma K (He.ga K "Part") "__init__")))) && (PySem.W.isFn K (.ref (He.ma K (He.ga K "Part") "__init__")) && PySem.W.keepIn K (.ref (He.ma K (He.ga K "Part") "__init__"))),
  fun K => cmFB K "Kind" "of" && (cmOk K "Kind" "of" && PySem.W.fnIn K (cmAd K "Kind" "of")),
  fun K => decide (PySem.W.nsIn K mainGlobals "first_kind" = some (some (.ref (He.ga K "first_kind")))),
  fun K => decide (PySem.W.findIn K (.ref (He.ga K "Family")) "__init__" = some (some (.ref (He.ma K (He.ga K "Family") "__init__")))) && (PySem.W.isFn K (.ref (He.ma K (He.ga K "Family") "__init__")) && PySem.W.keepIn K (.ref (He.ma K (He.ga K "Family") "__init__"))),
  fun K => cmFB K "Family" "of" && (cmOk K "Family" "of" && PySem.W.fnIn K (cmAd K "Family" "of")),
  fun K => decide (PySem.W.findIn K (.ref (He.ga K "Maker")) "__init__" = some (some (.ref (He.ma K (He.ga K "Maker") "__init__")))) && (PySem.W.isFn K (.ref (He.ma K (He.ga K "Maker") "__init__")) && PySem.W.keepIn K (.ref (He.ma K (He.ga K "Maker") "__init__"))),
  fun K => decide (PySem.W.nsIn K mainGlobals "read_family" = some (some (.ref (He.ga K "read_family")))),
  fun K => decide (PySem.W.findIn K (.ref (He.ga K "Kind")) "row" = some (some (.ref (He.ma K (He.ga K "Kind") "row")))) && (PySem.W.isFn K (.ref (He.ma K (He.ga K "Kind") "row")) && PySem.W.keepIn K (.ref (He.ma K (He.ga K "Kind") "row"))),
  fun K => decide (PySem.W.findIn K (.ref (He.ga K "Maker")) "written" = some (some (.ref (He.ma K (He.ga K "Maker") "written")))) && (PySem.W.isFn K (.ref (He.ma K (He.ga K "Maker") "written")) && PySem.W.keepIn K (.ref (He.ma K (He.ga K "Maker") "written"))),
  fun K => decide (PySem.W.nsIn K mainGlobals "show_kind" = some (some (.ref (He.ga K "show_kind")))),
  fun K => decide (PySem.W.nsIn K mainGlobals "show_family" = some (some (.ref (He.ga K "show_family")))),
  fun K => decide (PySem.W.findIn K (.ref (He.ga K "Kind")) "__eq__" = some (some (.ref (He.ma K (He.ga K "Kind") "__eq__")))) && (PySem.W.isFn K (.ref (He.ma K (He.ga K "Kind") "__eq__")) && PySem.W.keepIn K (.ref (He.ma K (He.ga K "Kind") "__eq__"))),
  fun K => decide (PySem.W.findIn K (.ref (He.ga K "Maker")) "__eq__" = some (some (.ref (He.ma K (He.ga K "Maker") "__eq__")))) && (PySem.W.isFn K (.ref (He.ma K (He.ga K "Maker") "__eq__")) && PySem.W.keepIn K (.ref (He.ma K (He.ga K "Maker") "__eq__"))),
  fun K => decide (PySem.W.findIn K (.ref (He.ga K "Family")) "__eq__" = some (some (.ref (He.ma K (He.ga K "Family") "__eq__")))) && (PySem.W.isFn K (.ref (He.ma K (He.ga K "Family") "__eq__")) && PySem.W.keepIn K (.ref (He.ma K (He.ga K "Family") "__eq__"))),
  fun K => decide (PySem.W.nsIn K mainGlobals "_law_maker" = some (some (.ref (He.ga K "_law_maker")))),
  fun K => decide (PySem.W.nsIn K mainGlobals "_law_family" = some (some (.ref (He.ga K "_law_family")))),
  fun K => decide (PySem.W.nsIn K mainGlobals "law" = some (some (.ref (He.ga K "law")))),
  fun K => PySem.W.plainGet K (He.ga K "Maker") Str.empty && (PySem.W.hasDictIn K (He.ga K "Maker") && (PySem.W.plainOver K (He.ga K "Maker") && decide (PySem.W.findIn K (.ref (He.ga K "Maker")) "__setattr__" = some (some (.builtin "object.__setattr__"))))),
  fun K => decide (PySem.W.nsIn K mainGlobals "Maker" = some (some (.ref (He.ga K "Maker")))),
  fun K => decide (PySem.W.findIn K (.ref (He.ga K "Maker")) "place" = some none),
  fun K => decide (PySem.W.findIn K (.ref (He.ga K "Maker")) "key" = some none),
  fun K => decide (PySem.W.findIn K (.ref (He.ga K "Maker")) "store" = some none),
  fun K => decide (PySem.W.findIn K (.ref (He.ga K "Maker")) "stopped" = some none),
  fun K => decide (PySem.W.findIn K (.ref (He.ga K "Maker")) "fits" = some none),
  fun K => decide (PySem.W.findIn K (.ref (He.ga K "Maker")) "misfit" = some none),
  fun K => decide (PySem.W.findIn K (.ref (He.ga K "Maker")) "compare" = some none),
  fun K => decide (PySem.W.findIn K (.ref (He.ga K "Maker")) "unlike" = some none),
  fun K => decide (PySem.W.findIn K (.ref (He.ga K "Maker")) "unready" = some none),
  fun K => decide (PySem.W.findIn K (.ref (He.ga K "Maker")) "again" = some none),
  fun K => PySem.W.makesIn K (He.ga K "Maker") && (decide (PySem.W.findIn K (.ref (He.ga K "Maker")) "__init__" = some (some (.ref (He.ma K (He.ga K "Maker") "__init__")))) && (PySem.W.isFn K (.ref (He.ma K (He.ga K "Maker") "__init__")) && PySem.W.keepIn K (.ref (He.ga K "Maker")))),
  fun K => PySem.W.readsIn K (He.ga K "Maker") (.type "type") && decide (PySem.W.specialIn K (.ref (He.ga K "Maker")) "__getattribute__" = some (some (.builtin "type.__getattribute__"))),
  fun K => PySem.W.plainGet K (He.ga K "Kind") Str.empty && (PySem.W.hasDictIn K (He.ga K "Kind") && (PySem.W.plainOver K (He.ga K "Kind") && decide (PySem.W.findIn K (.ref (He.ga K "Kind")) "__setattr__" = some (some (.builtin "object.__setattr__"))))),
  fun K => decide (PySem.W.nsIn K mainGlobals "Kind" = some (some (.ref (He.ga K "Kind")))),
  fun K => decide (PySem.W.findIn K (.ref (He.ga K "Kind")) "name" = some none),
  fun K => decide (PySem.W.findIn K (.ref (He.ga K "Kind")) "base" = some none),
  fun K => decide (PySem.W.findIn K (.ref (He.ga K "Kind")) "own" = some none),
  fun K => decide (PySem.W.findIn K (.ref (He.ga K "Kind")) "begin" = some none),
  fun K => PySem.W.makesIn K (He.ga K "Kind") && (decide (PySem.W.findIn K (.ref (He.ga K "Kind")) "__init__" = some (some (.ref (He.ma K (He.ga K "Kind") "__init__")))) && (PySem.W.isFn K (.ref (He.ma K (He.ga K "Kind") "__init__")) && PySem.W.keepIn K (.ref (He.ga K "Kind")))),
  fun K => PySem.W.readsIn K (He.ga K "Kind") (.type "type") && decide (PySem.W.specialIn K (.ref (He.ga K "Kind")) "__getattribute__" = some (some (.builtin "type.__getattribute__"))),
  fun K => PySem.W.plainGet K (He.ga K "Part") Str.empty && (PySem.W.hasDictIn K (He.ga K "Part") && (PySem.W.plainOver K (He.ga K "Part") && decide (PySem.W.findIn K (.ref (He.ga K "Part")) "__setattr__" = some (some (.builtin "object.__setattr__"))))),
  fun K => decide (PySem.W.nsIn K mainGlobals "Part" = some (some (.ref (He.ga K "Part")))),
  fun K => decide (PySem.W.findIn K (.ref (He.ga K "Part")) "up" = some none),
  fun K => decide (PySem.W.findIn K (.ref (He.ga K "Part")) "guarded" = some none),
  fun K => PySem.W.makesIn K (He.ga K "Part") && (decide (PySem.W.findIn K (.ref (He.ga K "Part")) "__init__" = some (some (.ref (He.ma K (He.ga K "Part") "__init__")))) && (PySem.W.isFn K (.ref (He.ma K (He.ga K "Part") "__init__")) && PySem.W.keepIn K (.ref (He.ga K "Part")))),
  fun K => PySem.W.plainGet K (He.ga K "Family") Str.empty && (PySem.W.hasDictIn K (He.ga K "Family") && (PySem.W.plainOver K (He.ga K "Family") && decide (PySem.W.findIn K (.ref (He.ga K "Family")) "__setattr__" = some (some (.builtin "object.__setattr__"))))),
  fun K => decide (PySem.W.nsIn K mainGlobals "Family" = some (some (.ref (He.ga K "Family")))),
  fun K => decide (PySem.W.findIn K (.ref (He.ga K "Family")) "maker" = some none),
  fun K => decide (PySem.W.findIn K (.ref (He.ga K "Family")) "kinds" = some none),
  fun K => PySem.W.makesIn K (He.ga K "Family") && (decide (PySem.W.findIn K (.ref (He.ga K "Family")) "__init__" = some (some (.ref (He.ma K (He.ga K "Family") "__init__")))) && (PySem.W.isFn K (.ref (He.ma K (He.ga K "Family") "__init__")) && PySem.W.keepIn K (.ref (He.ga K "Family")))),
  fun K => PySem.W.readsIn K (He.ga K "Family") (.type "type") && decide (PySem.W.specialIn K (.ref (He.ga K "Family")) "__getattribute__" = some (some (.builtin "type.__getattribute__"))),
  fun K => decide (PySem.W.nsIn K mainGlobals "OneError" = some (some (.ref (He.ga K "OneError")))),
  fun K => exmB exT K,
  fun K => ownB ownC K,
  fun K => strG K "LETTERS" "abcdefghijklmnopqrstuvwxyz",
  fun K => intG K "MOST_LETTERS" 8,
  fun K => decide (PySem.W.nsIn K mainGlobals "UPS" = some (some (.ref (He.ga K "UPS")))),
  fun K => relW K c_UPS (.ref (He.ga K "UPS")),
  fun K => decide (PySem.W.nsIn K mainGlobals "CHOICES" = some (some (.ref (He.ga K "CHOICES")))),
  fun K => tabB K (He.ga K "CHOICES") t_CHOICES,
  fun K => eqcB ownC "Family" K,
  fun K => eqcB ownC "Kind" K,
  fun K => eqcB ownC "Maker" K,
  fun K => cvalB K "Family" "MOST_KINDS" cc_Family_MOST_KINDS,
  fun K => cvalB K "Maker" "RULES" cc_Maker_RULES,
  fun K => decide (PySem.W.nsIn K mainGlobals "bool" = some none),
  fun K => decide (PySem.W.nsIn K mainGlobals "enumerate" = some none),
  fun K => decide (PySem.W.nsIn K mainGlobals "int" = some none),
  fun K => decide (PySem.W.nsIn K mainGlobals "isinstance" = some none),
  fun K => decide (PySem.W.nsIn K mainGlobals "len" = some none),
  fun K => decide (PySem.W.nsIn K mainGlobals "list" = some none),
  fun K => decide (PySem.W.nsIn K mainGlobals "range" = some none),
  fun K => decide (PySem.W.nsIn K mainGlobals "str" = some none),
  fun K => decide (PySem.W.nsIn K mainGlobals "tuple" = some none),
  fun K => decide (PySem.W.nsIn K mainGlobals "zip" = some none)]
def fns : List Df := [
  ⟨fun K => (He.ga K "_law_bag"), "_law_bag", "_law_bag", defArgs s_bag, defBody s_bag, defScope s_bag, [], []⟩,
  ⟨fun K => (He.ga K "_law_table"), "_law_table", "_law_table", defArgs s_table, defBody s_table, defScope s_table, [], []⟩,
  ⟨fun K => (He.ga K "_law_mixed"), "_law_mixed", "_law_mixed", defArgs s_mixed, defBody s_mixed, defScope s_mixed, [], []⟩,
  ⟨fun K => (He.ga K "_law_draw"), "_law_draw", "_law_draw", defArgs s_draw, defBody s_draw, defScope s_draw, [], []⟩,
  ⟨fun K => (He.ga K "_law_rules"), "_law_rules", "_law_rules", defArgs s_rules, defBody s_rules, defScope s_rules, [], []⟩,
  ⟨fun K => (He.ga K "_law_word"), "_law_word", "_law_word", defArgs s_word, defBody s_word, defScope s_word, [], []⟩,
  ⟨fun K => (He.ga K "_law_short"), "_law_short", "_law_short", defArgs s_short, defBody s_short, defScope s_short, [], []⟩,
  ⟨fun K => (He.ga K "_law_fresh"), "_law_fresh", "_law_fresh", defArgs s_fresh, defBody s_fresh, defScope s_fresh, [], []⟩,
  ⟨fun K => (He.ga K "_law_begin"), "_law_begin", "_law_begin", defArgs s_begin, defBody s_begin, defScope s_begin, [], []⟩,
  ⟨fun K => (He.ga K "_law_rows"), "_law_rows", "_law_rows", defArgs s_rows, defBody s_rows, defScope s_rows, [], []⟩,
  ⟨fun K => (He.ga K "_law_many"), "_law_many", "_law_many", defArgs s_many, defBody s_many, defScope s_many, [], []⟩,
  ⟨fun K => (He.ga K "_law_shown"), "_law_shown", "_law_shown", defArgs s_shown, defBody s_shown, defScope s_shown, [], []⟩,
  ⟨fun K => (He.ga K "is_choice"), "is_choice", "is_choice", defArgs s_is_choice, defBody s_is_choice, defScope s_is_choice, [], []⟩,
  ⟨fun K => (He.ga K "read_rule"), "read_rule", "read_rule", defArgs s_read_rule, defBody s_read_rule, defScope s_read_rule, [], []⟩,
  ⟨fun K => (He.ga K "is_name"), "is_name", "is_name", defArgs s_is_name, defBody s_is_name, defScope s_is_name, [], []⟩,
  ⟨fun K => (He.ga K "read_kind"), "read_kind", "read_kind", defArgs s_read_kind, defBody s_read_kind, defScope s_read_kind, [], []⟩,
  ⟨fun K => (He.ga K "read_begin"), "read_begin", "read_begin", defArgs s_read_begin, defBody s_read_begin, defScope s_read_begin, [], []⟩,
  ⟨fun K => (He.ga K "read_rows"), "read_rows", "read_rows", defArgs s_read_rows, defBody s_read_rows, defScope s_read_rows, [], []⟩,
  ⟨fun K => (He.ga K "is_up"), "is_up", "is_up", defArgs s_is_up, defBody s_is_up, defScope s_is_up, [], []⟩,
  ⟨fun K => (He.ga K "is_row"), "is_row", "is_row", defArgs s_is_row, defBody s_is_row, defScope s_is_row, [], []⟩,
  ⟨fun K => (He.ma K (He.ga K "Kind") "__init__"), "__init__", "Kind.__init__", defArgs s_Kind_init, defBody s_Kind_init, defScope s_Kind_init, [(.non)], [("own", .bl false), ("begin", .non)]⟩,
  ⟨fun K => (He.ma K (He.ga K "Part") "__init__"), "__init__", "Part.__init__", defArgs s_Part_init, defBody s_Part_init, defScope s_Part_init, [(.str "first")], [("guarded", .bl false)]⟩,
  ⟨fun K => (cmAd K "Kind" "of"), "of", "Kind.of", defArgs s_Kind_of, defBody s_Kind_of, defScope s_Kind_of, [], []⟩,
  ⟨fun K => (He.ga K "first_kind"), "first_kind", "first_kind", defArgs s_first_kind, defBody s_first_kind, defScope s_first_kind, [], []⟩,
  ⟨fun K => (He.ma K (He.ga K "Family") "__init__"), "__init__", "Family.__init__", defArgs s_Family_init, defBody s_Family_init, defScope s_Family_init, [], []⟩,
  ⟨fun K => (cmAd K "Family" "of"), "of", "Family.of", defArgs s_Family_of, defBody s_Family_of, defScope s_Family_of, [], []⟩,
  ⟨fun K => (He.ma K (He.ga K "Maker") "__init__"), "__init__", "Maker.__init__", defArgs s_Maker_init, defBody s_Maker_init, defScope s_Maker_init, [], [("place", .str "here"), ("key", .str "none"), ("store", .str "ahead"), ("stopped", .str "leave"), ("fits", .str "any"), ("misfit", .str "anew"), ("compare", .str "never"), ("unlike", .str "anew"), ("unready", .str "give"), ("again", .str "yes")]⟩,
  ⟨fun K => (He.ga K "read_family"), "read_family", "read_family", defArgs s_read_family, defBody s_read_family, defScope s_read_family, [], []⟩,
  ⟨fun K => (He.ma K (He.ga K "Kind") "row"), "row", "Kind.row", defArgs s_Kind_row, defBody s_Kind_row, defScope s_Kind_row, [], []⟩,
  ⟨fun K => (He.ma K (He.ga K "Maker") "written"), "written", "Maker.written", defArgs s_Maker_written, defBody s_Maker_written, defScope s_Maker_written, [], []⟩,
  ⟨fun K => (He.ga K "show_kind"), "show_kind", "show_kind", defArgs s_show_kind, defBody s_show_kind, defScope s_show_kind, [], []⟩,
  ⟨fun K => (He.ga K "show_family"), "show_family", "show_family", defArgs s_show_family, defBody s_show_family, defScope s_show_family, [], []⟩,
  ⟨fun K => (He.ma K (He.ga K "Kind") "__eq__"), "__eq__", "Kind.__eq__", defArgs s_Kind_eq, defBody s_Kind_eq, defScope s_Kind_eq, [], []⟩,
  ⟨fun K => (He.ma K (He.ga K "Maker") "__eq__"), "__eq__", "Maker.__eq__", defArgs s_Maker_eq, defBody s_Maker_eq, defScope s_Maker_eq, [], []⟩,
  ⟨fun K => (He.ma K (He.ga K "Family") "__eq__"), "__eq__", "Family.__eq__", defArgs s_Family_eq, defBody s_Family_eq, defScope s_Family_eq, [], []⟩,
  ⟨fun K => (He.ga K "_law_maker"), "_law_maker", "_law_maker", defArgs s_maker, defBody s_maker, defScope s_maker, [], []⟩,
  ⟨fun K => (He.ga K "_law_family"), "_law_family", "_law_family", defArgs s_family, defBody s_family, defScope s_family, [], []⟩,
  ⟨fun K => (He.ga K "law"), "law", "law", defArgs s_law, defBody s_law, defScope s_law, [], []⟩]
def tbs : List He.Tab := [(fun K => He.ga K "CHOICES", ["place", "key", "store", "stopped", "fits", "misfit", "compare", "unlike", "unready", "again"])]
abbrev R : PySem.W.OpenRow := PySem.W.OpenLaw.row PySem.Challenge.rw_oneandonly_k11_texts_read
def adrs : List Addr := ([3, 6, 4, 21, 31, 44, 64, 83, 102, 121, 140, 159, 178, 197, 216, 235, 254, 263, 264, 271, 297, 308, 351, 356, 373, 430, 441, 552, 563, 570, 577, 584, 591, 598, 603, 610, 617, 624, 629, 636, 643, 650, 657, 662, 669, 674, 679, 686, 691, 696, 0, 20, 30, 43, 63, 82, 101, 120, 139, 158, 177, 196, 215, 234, 253, 262, 270, 296, 307, 350, 357, 358, 359, 360, 361, 362, 363, 364, 365, 366, 372, 429, 440, 551, 562, 569, 576, 583, 590, 597, 602, 609, 616, 623, 628, 635, 642, 649, 656, 661] : List Addr) ++ ([668, 673, 678, 685, 690, 695, 15, 16, 17, 18, 19, 29, 32, 42, 45, 61, 62, 80, 81, 99, 100, 118, 119, 137, 138, 156, 157, 175, 176, 194, 195, 213, 214, 232, 233, 251, 252, 257, 258, 259, 260, 261, 265, 266, 267, 268, 269, 287, 294, 295, 298, 299, 302, 303, 304, 305, 306, 324, 333, 341, 348, 349, 352, 353, 367, 368, 369, 370, 371, 381, 389, 398, 406, 413, 420, 427, 428, 431, 432, 435, 436, 437, 438, 439, 455, 464, 472, 479, 486, 493, 500, 507, 514, 521, 528, 535, 542, 549, 550, 553] : List Addr) ++ ([554, 557, 558, 559, 560, 561, 564, 565, 566, 567, 568, 571, 572, 573, 574, 575, 578, 579, 580, 581, 582, 585, 586, 587, 588, 589, 592, 593, 594, 595, 596, 599, 600, 601, 604, 605, 606, 607, 608, 611, 612, 613, 614, 615, 618, 619, 620, 621, 622, 625, 626, 627, 630, 631, 632, 633, 634, 637, 638, 639, 640, 641, 644, 645, 646, 647, 648, 651, 652, 653, 654, 655, 658, 659, 660, 663, 664, 665, 666, 667, 670, 671, 672, 675, 676, 677, 680, 681, 682, 683, 684, 687, 688, 689, 692, 693, 694, 60, 79, 98] : List Addr) ++ ([117, 136, 155, 174, 193, 212, 231, 250, 286, 279, 280, 293, 323, 316, 317, 331, 332, 340, 347, 388, 382, 396, 397, 405, 412, 419, 426, 454, 462, 463, 471, 478, 485, 492, 499, 506, 513, 520, 527, 534, 541, 548, 55, 56, 57, 58, 59, 74, 75, 76, 77, 78, 93, 94, 95, 96, 97, 112, 113, 114, 115, 116, 131, 132, 133, 134, 135, 150, 151, 152, 153, 154, 169, 170, 171, 172, 173, 188, 189, 190, 191, 192, 207, 208, 209, 210, 211, 226, 227, 228, 229, 230, 245, 246, 247, 248, 249, 281, 282, 283] : List Addr) ++ ([284, 285, 288, 289, 290, 291, 292, 318, 319, 320, 321, 322, 330, 334, 335, 336, 337, 338, 339, 342, 343, 344, 345, 346, 383, 384, 385, 386, 387, 395, 399, 400, 401, 402, 403, 404, 407, 408, 409, 410, 411, 414, 415, 416, 417, 418, 421, 422, 423, 424, 425, 449, 450, 451, 452, 453, 461, 465, 466, 467, 468, 469, 470, 473, 474, 475, 476, 477, 480, 481, 482, 483, 484, 487, 488, 489, 490, 491, 494, 495, 496, 497, 498, 501, 502, 503, 504, 505, 508, 509, 510, 511, 512, 515, 516, 517, 518, 519, 522, 523] : List Addr) ++ ([524, 525, 526, 529, 530, 531, 532, 533, 536, 537, 538, 539, 540, 543, 544, 545, 546, 547, 325, 326, 327, 328, 329, 390, 391, 392, 393, 394, 456, 457, 458, 459, 460, cStatics] : List Addr)
abbrev hk : PySem.W.Hook := hookL adrs fbs fns tbs
def ob (s : PySem.W.SharedT) : AlN := obsL adrs fbs fns tbs (HandSHeadRun.getT s)
theorem ob_eq (s : PySem.W.SharedT) : ob s = hk.obs s.abs := obsL_eq (HandSHeadRun.getT_eq s)
abbrev qv : Program := PySem.W.view R.prog [55]
def names : List PySem.Str := (["_wall", "OneError", "StepError", "BadName", "NoRule", "BadChoice", "BadPart", "BadKind", "BadRow", "TooMany", "Twice", "NoBase", "BadText", "NoKind", "LETTERS", "MOST_LETTERS", "is_name", "UPS", "is_up", "Part"] : List PySem.Str) ++ (["is_row", "Kind", "CHOICES", "is_choice", "Maker", "first_kind", "Family", "show_kind", "show_family", "read_rule", "read_kind", "read_begin", "read_rows", "read_family", "_law_bag", "_law_mixed", "_law_draw", "_law_word", "_law_short", "_law_fresh"] : List PySem.Str) ++ (["_law_table", "_law_rules", "_law_maker", "_law_begin", "_law_rows", "_law_family", "_law_many", "_law_shown"] : List PySem.Str)
end DL
namespace DL
open PySem L2
theorem run_false (w : World) : HandSHeadRun.RunEq R qv hk ob 20000 names (w.withFollow "special-get-raises" false) := by
  intro os
  kernel_rfl
theorem run_true (w : World) : HandSHeadRun.RunEq R qv hk ob 20000 names (w.withFollow "special-get-raises" true) := by
  intro os
  kernel_rfl
theorem run (w : World) : HandSHeadRun.RunEq R qv hk ob 20000 names w := PySem.W.byRow2 "special-get-raises" run_false run_true w
end DL
namespace DL
open PySem L2
theorem tx_mk {w : World} {K : PySem.W.Frag} {h : Heap} {mg : Str → Option Value} (X : K.In h) (G : h.Ns mainGlobals mg) (c : SaysN fbs fns tbs w K) : ∃ ad : Ad, ad.d_law = ad.d_law ∧ Tx (gK K) w mg ad := by
  have q0 : (decide (PySem.W.nsIn K mainGlobals "_law_bag" = some (some (.ref (He.ga K "_law_bag"))))) = true := c.fact 0
  have q1 : (decide (PySem.W.nsIn K mainGlobals "_law_table" = some (some (.ref (He.ga K "_law_table"))))) = true := c.fact 1
  have q2 : (decide (PySem.W.nsIn K mainGlobals "_law_mixed" = some (some (.ref (He.ga K "_law_mixed"))))) = true := c.fact 2
  have q3 : (decide (PySem.W.nsIn K mainGlobals "_law_draw" = some (some (.ref (He.ga K "_law_draw"))))) = true := c.fact 3
  have q4 : (decide (PySem.W.nsIn K mainGlobals "_law_rules" = some (some (.ref (He.ga K "_law_rules"))))) = true := c.fact 4
  have q5 : (decide (PySem.W.nsIn K mainGlobals "_law_word" = some (some (.ref (He.ga K "_law_word"))))) = true := c.fact 5
  have q6 : (decide (PySem.W.nsIn K mainGlobals "_law_short" = some (some (.ref (He.ga K "_law_short"))))) = true := c.fact 6
  have q7 : (decide (PySem.W.nsIn K mainGlobals "_law_fresh" = some (some (.ref (He.ga K "_law_fresh"))))) = true := c.fact 7
  have q8 : (decide (PySem.W.nsIn K mainGlobals "_law_begin" = some (some (.ref (He.ga K "_law_begin"))))) = true := c.fact 8
  have q9 : (decide (PySem.W.nsIn K mainGlobals "_law_rows" = some (some (.ref (He.ga K "_law_rows"))))) = true := c.fact 9
  have q10 : (decide (PySem.W.nsIn K mainGlobals "_law_many" = some (some (.ref (He.ga K "_law_many"))))) = true := c.fact 10
  have q11 : (decide (PySem.W.nsIn K mainGlobals "_law_shown" = some (some (.ref (He.ga K "_law_shown"))))) = true := c.fact 11
  have q12 : (decide (PySem.W.nsIn K mainGlobals "is_choice" = some (some (.ref (He.ga K "is_choice"))))) = true := c.fact 12
  have q13 : (decide (PySem.W.nsIn K mainGlobals "read_rule" = some (some (.ref (He.ga K "read_rule"))))) = true := c.fact 13
  have q14 : (decide (PySem.W.nsIn K mainGlobals "is_name" = some (some (.ref (He.ga K "is_name"))))) = true := c.fact 14
  have q15 : (decide (PySem.W.nsIn K mainGlobals "read_kind" = some (some (.ref (He.ga K "read_kind"))))) = true := c.fact 15
  have q16 : (decide (PySem.W.nsIn K mainGlobals "read_begin" = some (some (.ref (He.ga K "read_begin"))))) = true := c.fact 16
  have q17 : (decide (PySem.W.nsIn K mainGlobals "read_rows" = some (some (.ref (He.ga K "read_rows"))))) = true := c.fact 17
  have q18 : (decide (PySem.W.nsIn K mainGlobals "is_up" = some (some (.ref (He.ga K "is_up"))))) = true := c.fact 18
  have q19 : (decide (PySem.W.nsIn K mainGlobals "is_row" = some (some (.ref (He.ga K "is_row"))))) = true := c.fact 19
  have q20 : (decide (PySem.W.findIn K (.ref (He.ga K "Kind")) "__init__" = some (some (.ref (He.ma K (He.ga K "Kind") "__init__")))) && (PySem.W.isFn K (.ref (He.ma K (He.ga K "Kind") "__init__")) && PySem.W.keepIn K (.ref (He.ma K (He.ga K "Kind") "__init__")))) = true := c.fact 20
  have q21 : (decide (PySem.W.findIn K (.ref (He.ga K "Part")) "__init__" = some (some (.ref (He.ma K (He.ga K "Part") "__init__")))) && (PySem.W.isFn K (.ref (He.ma K (He.ga K "Part") "__init__")) && PySem.W.keepIn K (.ref (He.ma K (He.ga K "Part") "__init__")))) = true := c.fact 21
  have q22 : (cmFB K "Kind" "of" && (cmOk K "Kind" "of" && PySem.W.fnIn K (cmAd K "Kind" "of"))) = true := c.fact 22
  have q23 : (decide (PySem.W.nsIn K mainGlobals "first_kind" = some (some (.ref (He.ga K "first_kind"))))) = true := c.fact 23
  have q24 : (decide (PySem.W.findIn K (.ref (He.ga K "Family")) "__init__" = some (some (.ref (He.ma K (He.ga K "Family") "__init__")))) && (PySem.W.isFn K (.ref (He.ma K (He.ga K "Family") "__init__")) && PySem.W.keepIn K (.ref (He.ma K (He.ga K "Family") "__init__")))) = true := c.fact 24
  have q25 : (cmFB K "Family" "of" && (cmOk K "Family" "of" && PySem.W.fnIn K (cmAd K "Family" "of"))) = true := c.fact 25
  have q26 : (decide (PySem.W.findIn K (.ref (He.ga K "Maker")) "__init__" = some (some (.ref (He.ma K (He.ga K "Maker") "__init__")))) && (PySem.W.isFn K (.ref (He.ma K (He.ga K "Maker") "__init__")) && PySem.W.keepIn K (.ref (He.ma K (He.ga K "Maker") "__init__")))) = true := c.fact 26
  have q27 : (decide (PySem.W.nsIn K mainGlobals "read_family" = some (some (.ref (He.ga K "read_family"))))) = true := c.fact 27
  have q28 : (decide (PySem.W.findIn K (.ref (He.ga K "Kind")) "row" = some (some (.ref (He.ma K (He.ga K "Kind") "row")))) && (PySem.W.isFn K (.ref (He.ma K (He.ga K "Kind") "row")) && PySem.W.keepIn K (.ref (He.ma K (He.ga K "Kind") "row")))) = true := c.fact 28
  have q29 : (decide (PySem.W.findIn K (.ref (He.ga K "Maker")) "written" = some (some (.ref (He.ma K (He.ga K "Maker") "written")))) && (PySem.W.isFn K (.ref (He.ma K (He.ga K "Maker") "written")) && PySem.W.keepIn K (.ref (He.ma K (He.ga K "Maker") "written")))) = true := c.fact 29
  have q30 : (decide (PySem.W.nsIn K mainGlobals "show_kind" = some (some (.ref (He.ga K "show_kind"))))) = true := c.fact 30
  have q31 : (decide (PySem.W.nsIn K mainGlobals "show_family" = some (some (.ref (He.ga K "show_family"))))) = true := c.fact 31
  have q32 : (decide (PySem.W.findIn K (.ref (He.ga K "Kind")) "__eq__" = some (some (.ref (He.ma K (He.ga K "Kind") "__eq__")))) && (PySem.W.isFn K (.ref (He.ma K (He.ga K "Kind") "__eq__")) && PySem.W.keepIn K (.ref (He.ma K (He.ga K "Kind") "__eq__")))) = true := c.fact 32
  have q33 : (decide (PySem.W.findIn K (.ref (He.ga K "Maker")) "__eq__" = some (some (.ref (He.ma K (He.ga K "Maker") "__eq__")))) && (PySem.W.isFn K (.ref (He.ma K (He.ga K "Maker") "__eq__")) && PySem.W.keepIn K (.ref (He.ma K (He.ga K "Maker") "__eq__")))) = true := c.fact 33
  have q34 : (decide (PySem.W.findIn K (.ref (He.ga K "Family")) "__eq__" = some (some (.ref (He.ma K (He.ga K "Family") "__eq__")))) && (PySem.W.isFn K (.ref (He.ma K (He.ga K "Family") "__eq__")) && PySem.W.keepIn K (.ref (He.ma K (He.ga K "Family") "__eq__")))) = true := c.fact 34
  have q35 : (decide (PySem.W.nsIn K mainGlobals "_law_maker" = some (some (.ref (He.ga K "_law_maker"))))) = true := c.fact 35
  have q36 : (decide (PySem.W.nsIn K mainGlobals "_law_family" = some (some (.ref (He.ga K "_law_family"))))) = true := c.fact 36
  have q37 : (decide (PySem.W.nsIn K mainGlobals "law" = some (some (.ref (He.ga K "law"))))) = true := c.fact 37
  have q38 : (PySem.W.plainGet K (He.ga K "Maker") Str.empty && (PySem.W.hasDictIn K (He.ga K "Maker") && (PySem.W.plainOver K (He.ga K "Maker") && decide (PySem.W.findIn K (.ref (He.ga K "Maker")) "__setattr__" = some (some (.builtin "object.__setattr__")))))) = true := c.fact 38
  have q39 : (decide (PySem.W.nsIn K mainGlobals "Maker" = some (some (.ref (He.ga K "Maker"))))) = true := c.fact 39
  have q40 : (decide (PySem.W.findIn K (.ref (He.ga K "Maker")) "place" = some none)) = true := c.fact 40
  have q41 : (decide (PySem.W.findIn K (.ref (He.ga K "Maker")) "key" = some none)) = true := c.fact 41
  have q42 : (decide (PySem.W.findIn K (.ref (He.ga K "Maker")) "store" = some none)) = true := c.fact 42
  have q43 : (decide (PySem.W.findIn K (.ref (He.ga K "Maker")) "stopped" = some none)) = true := c.fact 43
  have q44 : (decide (PySem.W.findIn K (.ref (He.ga K "Maker")) "fits" = some none)) = true := c.fact 44
  have q45 : (decide (PySem.W.findIn K (.ref (He.ga K "Maker")) "misfit" = some none)) = true := c.fact 45
  have q46 : (decide (PySem.W.findIn K (.ref (He.ga K "Maker")) "compare" = some none)) = true := c.fact 46
  have q47 : (decide (PySem.W.findIn K (.ref (He.ga K "Maker")) "unlike" = some none)) = true := c.fact 47
  have q48 : (decide (PySem.W.findIn K (.ref (He.ga K "Maker")) "unready" = some none)) = true := c.fact 48
  have q49 : (decide (PySem.W.findIn K (.ref (He.ga K "Maker")) "again" = some none)) = true := c.fact 49
  have q50 : (PySem.W.makesIn K (He.ga K "Maker") && (decide (PySem.W.findIn K (.ref (He.ga K "Maker")) "__init__" = some (some (.ref (He.ma K (He.ga K "Maker") "__init__")))) && (PySem.W.isFn K (.ref (He.ma K (He.ga K "Maker") "__init__")) && PySem.W.keepIn K (.ref (He.ga K "Maker"))))) = true := c.fact 50
  have q51 : (PySem.W.readsIn K (He.ga K "Maker") (.type "type") && decide (PySem.W.specialIn K (.ref (He.ga K "Maker")) "__getattribute__" = some (some (.builtin "type.__getattribute__")))) = true := c.fact 51
  have q52 : (PySem.W.plainGet K (He.ga K "Kind") Str.empty && (PySem.W.hasDictIn K (He.ga K "Kind") && (PySem.W.plainOver K (He.ga K "Kind") && decide (PySem.W.findIn K (.ref (He.ga K "Kind")) "__setattr__" = some (some (.builtin "object.__setattr__")))))) = true := c.fact 52
  have q53 : (decide (PySem.W.nsIn K mainGlobals "Kind" = some (some (.ref (He.ga K "Kind"))))) = true := c.fact 53
  have q54 : (decide (PySem.W.findIn K (.ref (He.ga K "Kind")) "name" = some none)) = true := c.fact 54
  have q55 : (decide (PySem.W.findIn K (.ref (He.ga K "Kind")) "base" = some none)) = true := c.fact 55
  have q56 : (decide (PySem.W.findIn K (.ref (He.ga K "Kind")) "own" = some none)) = true := c.fact 56
  have q57 : (decide (PySem.W.findIn K (.ref (He.ga K "Kind")) "begin" = some none)) = true := c.fact 57
  have q58 : (PySem.W.makesIn K (He.ga K "Kind") && (decide (PySem.W.findIn K (.ref (He.ga K "Kind")) "__init__" = some (some (.ref (He.ma K (He.ga K "Kind") "__init__")))) && (PySem.W.isFn K (.ref (He.ma K (He.ga K "Kind") "__init__")) && PySem.W.keepIn K (.ref (He.ga K "Kind"))))) = true := c.fact 58
  have q59 : (PySem.W.readsIn K (He.ga K "Kind") (.type "type") && decide (PySem.W.specialIn K (.ref (He.ga K "Kind")) "__getattribute__" = some (some (.builtin "type.__getattribute__")))) = true := c.fact 59
  have q60 : (PySem.W.plainGet K (He.ga K "Part") Str.empty && (PySem.W.hasDictIn K (He.ga K "Part") && (PySem.W.plainOver K (He.ga K "Part") && decide (PySem.W.findIn K (.ref (He.ga K "Part")) "__setattr__" = some (some (.builtin "object.__setattr__")))))) = true := c.fact 60
  have q61 : (decide (PySem.W.nsIn K mainGlobals "Part" = some (some (.ref (He.ga K "Part"))))) = true := c.fact 61
  have q62 : (decide (PySem.W.findIn K (.ref (He.ga K "Part")) "up" = some none)) = true := c.fact 62
  have q63 : (decide (PySem.W.findIn K (.ref (He.ga K "Part")) "guarded" = some none)) = true := c.fact 63
  have q64 : (PySem.W.makesIn K (He.ga K "Part") && (decide (PySem.W.findIn K (.ref (He.ga K "Part")) "__init__" = some (some (.ref (He.ma K (He.ga K "Part") "__init__")))) && (PySem.W.isFn K (.ref (He.ma K (He.ga K "Part") "__init__")) && PySem.W.keepIn K (.ref (He.ga K "Part"))))) = true := c.fact 64
  have q65 : (PySem.W.plainGet K (He.ga K "Family") Str.empty && (PySem.W.hasDictIn K (He.ga K "Family") && (PySem.W.plainOver K (He.ga K "Family") && decide (PySem.W.findIn K (.ref (He.ga K "Family")) "__setattr__" = some (some (.builtin "object.__setattr__")))))) = true := c.fact 65
  have q66 : (decide (PySem.W.nsIn K mainGlobals "Family" = some (some (.ref (He.ga K "Family"))))) = true := c.fact 66
  have q67 : (decide (PySem.W.findIn K (.ref (He.ga K "Family")) "maker" = some none)) = true := c.fact 67
  have q68 : (decide (PySem.W.findIn K (.ref (He.ga K "Family")) "kinds" = some none)) = true := c.fact 68
  have q69 : (PySem.W.makesIn K (He.ga K "Family") && (decide (PySem.W.findIn K (.ref (He.ga K "Family")) "__init__" = some (some (.ref (He.ma K (He.ga K "Family") "__init__")))) && (PySem.W.isFn K (.ref (He.ma K (He.ga K "Family") "__init__")) && PySem.W.keepIn K (.ref (He.ga K "Family"))))) = true := c.fact 69
  have q70 : (PySem.W.readsIn K (He.ga K "Family") (.type "type") && decide (PySem.W.specialIn K (.ref (He.ga K "Family")) "__getattribute__" = some (some (.builtin "type.__getattribute__")))) = true := c.fact 70
  have q71 : (decide (PySem.W.nsIn K mainGlobals "OneError" = some (some (.ref (He.ga K "OneError"))))) = true := c.fact 71
  have q72 : (exmB exT K) = true := c.fact 72
  have q73 : (ownB ownC K) = true := c.fact 73
  have q74 : (strG K "LETTERS" "abcdefghijklmnopqrstuvwxyz") = true := c.fact 74
  have q75 : (intG K "MOST_LETTERS" 8) = true := c.fact 75
  have q76 : (decide (PySem.W.nsIn K mainGlobals "UPS" = some (some (.ref (He.ga K "UPS"))))) = true := c.fact 76
  have q77 : (relW K c_UPS (.ref (He.ga K "UPS"))) = true := c.fact 77
  have q78 : (decide (PySem.W.nsIn K mainGlobals "CHOICES" = some (some (.ref (He.ga K "CHOICES"))))) = true := c.fact 78
  have q79 : (tabB K (He.ga K "CHOICES") t_CHOICES) = true := c.fact 79
  have q80 : (eqcB ownC "Family" K) = true := c.fact 80
  have q81 : (eqcB ownC "Kind" K) = true := c.fact 81
  have q82 : (eqcB ownC "Maker" K) = true := c.fact 82
  have q83 : (cvalB K "Family" "MOST_KINDS" cc_Family_MOST_KINDS) = true := c.fact 83
  have q84 : (cvalB K "Maker" "RULES" cc_Maker_RULES) = true := c.fact 84
  have q85 : (decide (PySem.W.nsIn K mainGlobals "bool" = some none)) = true := c.fact 85
  have q86 : (decide (PySem.W.nsIn K mainGlobals "enumerate" = some none)) = true := c.fact 86
  have q87 : (decide (PySem.W.nsIn K mainGlobals "int" = some none)) = true := c.fact 87
  have q88 : (decide (PySem.W.nsIn K mainGlobals "isinstance" = some none)) = true := c.fact 88
  have q89 : (decide (PySem.W.nsIn K mainGlobals "len" = some none)) = true := c.fact 89
  have q90 : (decide (PySem.W.nsIn K mainGlobals "list" = some none)) = true := c.fact 90
  have q91 : (decide (PySem.W.nsIn K mainGlobals "range" = some none)) = true := c.fact 91
  have q92 : (decide (PySem.W.nsIn K mainGlobals "str" = some none)) = true := c.fact 92
  have q93 : (decide (PySem.W.nsIn K mainGlobals "tuple" = some none)) = true := c.fact 93
  have q94 : (decide (PySem.W.nsIn K mainGlobals "zip" = some none)) = true := c.fact 94
  obtain ⟨fd0, F0⟩ := c.def_ 0
  have bbag_1 := F0.bindsN (ps := ["_law_script"]) (fun _ _ _ _ _ _ us hl => match us, hl with | [_], _ => rfl)
  obtain ⟨fd1, F1⟩ := c.def_ 1
  have btable_0 := F1.bindsN (ps := []) (fun _ _ _ _ _ _ us hl => match us, hl with | [], _ => rfl)
  obtain ⟨fd2, F2⟩ := c.def_ 2
  have bmixed_2 := F2.bindsN (ps := ["_law_seed", "_law_count"]) (fun _ _ _ _ _ _ us hl => match us, hl with | [_, _], _ => rfl)
  obtain ⟨fd3, F3⟩ := c.def_ 3
  have bdraw_2 := F3.bindsN (ps := ["_law_bag_here", "_law_limit"]) (fun _ _ _ _ _ _ us hl => match us, hl with | [_, _], _ => rfl)
  obtain ⟨fd4, F4⟩ := c.def_ 4
  have brules_1 := F4.bindsN (ps := ["_law_bag_here"]) (fun _ _ _ _ _ _ us hl => match us, hl with | [_], _ => rfl)
  obtain ⟨fd5, F5⟩ := c.def_ 5
  have bword_1 := F5.bindsN (ps := ["_law_bag_here"]) (fun _ _ _ _ _ _ us hl => match us, hl with | [_], _ => rfl)
  obtain ⟨fd6, F6⟩ := c.def_ 6
  have bshort_1 := F6.bindsN (ps := ["_law_bag_here"]) (fun _ _ _ _ _ _ us hl => match us, hl with | [_], _ => rfl)
  obtain ⟨fd7, F7⟩ := c.def_ 7
  have bfresh_2 := F7.bindsN (ps := ["_law_bag_here", "_law_taken"]) (fun _ _ _ _ _ _ us hl => match us, hl with | [_, _], _ => rfl)
  obtain ⟨fd8, F8⟩ := c.def_ 8
  have bbegin_1 := F8.bindsN (ps := ["_law_bag_here"]) (fun _ _ _ _ _ _ us hl => match us, hl with | [_], _ => rfl)
  obtain ⟨fd9, F9⟩ := c.def_ 9
  have brows_2 := F9.bindsN (ps := ["_law_bag_here", "_law_many_here"]) (fun _ _ _ _ _ _ us hl => match us, hl with | [_, _], _ => rfl)
  obtain ⟨fd10, F10⟩ := c.def_ 10
  have bmany_1 := F10.bindsN (ps := ["_law_bag_here"]) (fun _ _ _ _ _ _ us hl => match us, hl with | [_], _ => rfl)
  obtain ⟨fd11, F11⟩ := c.def_ 11
  have bshown_2 := F11.bindsN (ps := ["_law_rules_here", "_law_rows_here"]) (fun _ _ _ _ _ _ us hl => match us, hl with | [_, _], _ => rfl)
  obtain ⟨fd12, F12⟩ := c.def_ 12
  have bis_choice_2 := F12.bindsN (ps := ["rule", "given"]) (fun _ _ _ _ _ _ us hl => match us, hl with | [_, _], _ => rfl)
  obtain ⟨fd13, F13⟩ := c.def_ 13
  have bread_rule_2 := F13.bindsN (ps := ["rule", "line"]) (fun _ _ _ _ _ _ us hl => match us, hl with | [_, _], _ => rfl)
  obtain ⟨fd14, F14⟩ := c.def_ 14
  have bis_name_1 := F14.bindsN (ps := ["thing"]) (fun _ _ _ _ _ _ us hl => match us, hl with | [_], _ => rfl)
  obtain ⟨fd15, F15⟩ := c.def_ 15
  have bread_kind_1 := F15.bindsN (ps := ["line"]) (fun _ _ _ _ _ _ us hl => match us, hl with | [_], _ => rfl)
  obtain ⟨fd16, F16⟩ := c.def_ 16
  have bread_begin_1 := F16.bindsN (ps := ["line"]) (fun _ _ _ _ _ _ us hl => match us, hl with | [_], _ => rfl)
  obtain ⟨fd17, F17⟩ := c.def_ 17
  have bread_rows_1 := F17.bindsN (ps := ["lines"]) (fun _ _ _ _ _ _ us hl => match us, hl with | [_], _ => rfl)
  obtain ⟨fd18, F18⟩ := c.def_ 18
  have bis_up_1 := F18.bindsN (ps := ["thing"]) (fun _ _ _ _ _ _ us hl => match us, hl with | [_], _ => rfl)
  obtain ⟨fd19, F19⟩ := c.def_ 19
  have bis_row_1 := F19.bindsN (ps := ["thing"]) (fun _ _ _ _ _ _ us hl => match us, hl with | [_], _ => rfl)
  obtain ⟨fd20, F20⟩ := c.def_ 20
  obtain ⟨eKind_init_3_own, mKind_init_3_own, kKind_init_3_own⟩ := F20.kbinds (ps := ["self", "name", "base", "own", "begin"]) 3 ["own"] [("begin", .non)] (fun vs ds ms zs => g_Kind_init_3_own vs ds ms zs) (List.cons_ne_nil _ _) (List.cons_ne_nil _ _) (by simp [Df.kws, He.Dv.v]) (fun r1 r2 r3 r4 => rel_Kind_init_3_own r1 r2 r3 r4) (fun T D doc pm an cdv ct us its mv ws h1 h2 h3 h4 => match us, its, mv, ws, h1, h2, h3, h4 with | [a0, a1, a2], [d0], [m0], [z0], _, _, _, _ => ⟨_, rfl, ⟨_, _, _, _, _, _, rfl, rfl, rfl⟩⟩)
  obtain ⟨eKind_init_3_own_begin, mKind_init_3_own_begin, kKind_init_3_own_begin⟩ := F20.kbinds (ps := ["self", "name", "base", "own", "begin"]) 3 ["own", "begin"] [] (fun vs ds ms zs => g_Kind_init_3_own_begin vs ds ms zs) (List.cons_ne_nil _ _) (List.cons_ne_nil _ _) (fun _ h => by cases h) (fun r1 r2 r3 r4 => rel_Kind_init_3_own_begin r1 r2 r3 r4) (fun T D doc pm an cdv ct us its mv ws h1 h2 h3 h4 => match us, its, mv, ws, h1, h2, h3, h4 with | [a0, a1, a2], [d0], [], [z0, z1], _, _, _, _ => ⟨_, rfl, rfl⟩)
  obtain ⟨fd21, F21⟩ := c.def_ 21
  obtain ⟨ePart_init_2_guarded, mPart_init_2_guarded, kPart_init_2_guarded⟩ := F21.kbinds (ps := ["self", "up", "guarded"]) 2 ["guarded"] [] (fun vs ds ms zs => g_Part_init_2_guarded vs ds ms zs) (List.cons_ne_nil _ _) (List.cons_ne_nil _ _) (fun _ h => by cases h) (fun r1 r2 r3 r4 => rel_Part_init_2_guarded r1 r2 r3 r4) (fun T D doc pm an cdv ct us its mv ws h1 h2 h3 h4 => match us, its, mv, ws, h1, h2, h3, h4 with | [a0, a1], [d0], [], [z0], _, _, _, _ => ⟨_, rfl, rfl⟩)
  obtain ⟨fd22, F22⟩ := c.def_ 22
  have bKind_of_2 := F22.bindsN (ps := ["cls", "row"]) (fun _ _ _ _ _ _ us hl => match us, hl with | [_, _], _ => rfl)
  obtain ⟨fd23, F23⟩ := c.def_ 23
  have bfirst_kind_2 := F23.bindsN (ps := ["kinds", "name"]) (fun _ _ _ _ _ _ us hl => match us, hl with | [_, _], _ => rfl)
  obtain ⟨fd24, F24⟩ := c.def_ 24
  obtain ⟨fd25, F25⟩ := c.def_ 25
  have bFamily_of_3 := F25.bindsN (ps := ["cls", "maker", "kinds"]) (fun _ _ _ _ _ _ us hl => match us, hl with | [_, _, _], _ => rfl)
  obtain ⟨fd26, F26⟩ := c.def_ 26
  obtain ⟨mMaker_init_1_place_key_store_stopped_fits_misfit_compare_unlike_unready_again, kMaker_init_1_place_key_store_stopped_fits_misfit_compare_unlike_unready_again⟩ := F26.kbinds0 (ps := ["self", "place", "key", "store", "stopped", "fits", "misfit", "compare", "unlike", "unready", "again"]) 1 ["place", "key", "store", "stopped", "fits", "misfit", "compare", "unlike", "unready", "again"] [] (fun vs ms zs => g_Maker_init_1_place_key_store_stopped_fits_misfit_compare_unlike_unready_again vs [] ms zs) (List.cons_ne_nil _ _) (fun _ h => by cases h) (fun r1 r3 r4 => rel_Maker_init_1_place_key_store_stopped_fits_misfit_compare_unlike_unready_again r1 .nil r3 r4) (fun D doc pm an cdv ct us mv ws h1 h3 h4 => match us, mv, ws, h1, h3, h4 with | [a0], [], [z0, z1, z2, z3, z4, z5, z6, z7, z8, z9], _, _, _ => (by show _ = _; kernel_rfl))
  obtain ⟨fd27, F27⟩ := c.def_ 27
  have bread_family_1 := F27.bindsN (ps := ["text"]) (fun _ _ _ _ _ _ us hl => match us, hl with | [_], _ => rfl)
  obtain ⟨fd28, F28⟩ := c.def_ 28
  have bKind_row_1 := F28.bindsN (ps := ["self"]) (fun _ _ _ _ _ _ us hl => match us, hl with | [_], _ => rfl)
  obtain ⟨fd29, F29⟩ := c.def_ 29
  have bMaker_written_1 := F29.bindsN (ps := ["self"]) (fun _ _ _ _ _ _ us hl => match us, hl with | [_], _ => rfl)
  obtain ⟨fd30, F30⟩ := c.def_ 30
  have bshow_kind_1 := F30.bindsN (ps := ["kind"]) (fun _ _ _ _ _ _ us hl => match us, hl with | [_], _ => rfl)
  obtain ⟨fd31, F31⟩ := c.def_ 31
  have bshow_family_1 := F31.bindsN (ps := ["family"]) (fun _ _ _ _ _ _ us hl => match us, hl with | [_], _ => rfl)
  obtain ⟨fd32, F32⟩ := c.def_ 32
  have bKind_eq_2 := F32.bindsN (ps := ["self", "other"]) (fun _ _ _ _ _ _ us hl => match us, hl with | [_, _], _ => rfl)
  obtain ⟨fd33, F33⟩ := c.def_ 33
  have bMaker_eq_2 := F33.bindsN (ps := ["self", "other"]) (fun _ _ _ _ _ _ us hl => match us, hl with | [_, _], _ => rfl)
  obtain ⟨fd34, F34⟩ := c.def_ 34
  have bFamily_eq_2 := F34.bindsN (ps := ["self", "other"]) (fun _ _ _ _ _ _ us hl => match us, hl with | [_, _], _ => rfl)
  obtain ⟨fd35, F35⟩ := c.def_ 35
  have bmaker_1 := F35.bindsN (ps := ["_law_rules_here"]) (fun _ _ _ _ _ _ us hl => match us, hl with | [_], _ => rfl)
  obtain ⟨fd36, F36⟩ := c.def_ 36
  have bfamily_2 := F36.bindsN (ps := ["_law_rules_here", "_law_rows_here"]) (fun _ _ _ _ _ _ us hl => match us, hl with | [_, _], _ => rfl)
  obtain ⟨fd37, F37⟩ := c.def_ 37
  obtain ⟨t_LETTERS, e_LETTERS⟩ := strG_ok X G q74
  obtain ⟨t_MOST_LETTERS, e_MOST_LETTERS⟩ := intG_ok X G q75
  obtain ⟨cx_Family_MOST_KINDS, cu_Family_MOST_KINDS, cp_Family_MOST_KINDS, cq_Family_MOST_KINDS⟩ := cvalB_ok (g := gK K) rfl q83
  obtain ⟨cx_Maker_RULES, cu_Maker_RULES, cp_Maker_RULES, cq_Maker_RULES⟩ := cvalB_ok (g := gK K) rfl q84
  exact ⟨⟨fd0, fd1, fd2, fd3, fd4, fd5, fd6, fd7, fd8, fd9, fd10, fd11, fd12, fd13, fd14, fd15, fd16, fd17, fd18, fd19, fd20, fun us ws => g_Kind_init_3_own us eKind_init_3_own mKind_init_3_own ws, fun us ws => g_Kind_init_3_own_begin us eKind_init_3_own_begin mKind_init_3_own_begin ws, fd21, fun us ws => g_Part_init_2_guarded us ePart_init_2_guarded mPart_init_2_guarded ws, fd22, fd23, fd24, fd25, fd26, fun us ws => g_Maker_init_1_place_key_store_stopped_fits_misfit_compare_unlike_unready_again us [] mMaker_init_1_place_key_store_stopped_fits_misfit_compare_unlike_unready_again ws, fd27, fd28, fd29, fd30, fd31, fd32, fd33, fd34, fd35, fd36, fd37, t_LETTERS, t_MOST_LETTERS, cu_Family_MOST_KINDS, cx_Family_MOST_KINDS, cu_Maker_RULES, cx_Maker_RULES⟩, rfl, ⟨F0,
    PySem.W.mg_of X G (of_decide_eq_true q0),
    bbag_1,
    F1,
    PySem.W.mg_of X G (of_decide_eq_true q1),
    btable_0,
    F2,
    PySem.W.mg_of X G (of_decide_eq_true q2),
    bmixed_2,
    F3,
    PySem.W.mg_of X G (of_decide_eq_true q3),
    bdraw_2,
    F4,
    PySem.W.mg_of X G (of_decide_eq_true q4),
    brules_1,
    F5,
    PySem.W.mg_of X G (of_decide_eq_true q5),
    bword_1,
    F6,
    PySem.W.mg_of X G (of_decide_eq_true q6),
    bshort_1,
    F7,
    PySem.W.mg_of X G (of_decide_eq_true q7),
    bfresh_2,
    F8,
    PySem.W.mg_of X G (of_decide_eq_true q8),
    bbegin_1,
    F9,
    PySem.W.mg_of X G (of_decide_eq_true q9),
    brows_2,
    F10,
    PySem.W.mg_of X G (of_decide_eq_true q10),
    bmany_1,
    F11,
    PySem.W.mg_of X G (of_decide_eq_true q11),
    bshown_2,
    F12,
    PySem.W.mg_of X G (of_decide_eq_true q12),
    bis_choice_2,
    F13,
    PySem.W.mg_of X G (of_decide_eq_true q13),
    bread_rule_2,
    F14,
    PySem.W.mg_of X G (of_decide_eq_true q14),
    bis_name_1,
    F15,
    PySem.W.mg_of X G (of_decide_eq_true q15),
    bread_kind_1,
    F16,
    PySem.W.mg_of X G (of_decide_eq_true q16),
    bread_begin_1,
    F17,
    PySem.W.mg_of X G (of_decide_eq_true q17),
    bread_rows_1,
    F18,
    PySem.W.mg_of X G (of_decide_eq_true q18),
    bis_up_1,
    F19,
    PySem.W.mg_of X G (of_decide_eq_true q19),
    bis_row_1,
    F20,
    (let z := He.ba q20; ⟨of_decide_eq_true z.1, (He.ba z.2).1, (He.ba z.2).2⟩),
    kKind_init_3_own,
    kKind_init_3_own_begin,
    F21,
    (let z := He.ba q21; ⟨of_decide_eq_true z.1, (He.ba z.2).1, (He.ba z.2).2⟩),
    kPart_init_2_guarded,
    F22,
    (let z := He.ba q22; ⟨cmFB_ok z.1, cm_rc (He.ba z.2).1, (He.ba z.2).2⟩),
    bKind_of_2,
    F23,
    PySem.W.mg_of X G (of_decide_eq_true q23),
    bfirst_kind_2,
    F24,
    (let z := He.ba q24; ⟨of_decide_eq_true z.1, (He.ba z.2).1, (He.ba z.2).2⟩),
    F25,
    (let z := He.ba q25; ⟨cmFB_ok z.1, cm_rc (He.ba z.2).1, (He.ba z.2).2⟩),
    bFamily_of_3,
    F26,
    (let z := He.ba q26; ⟨of_decide_eq_true z.1, (He.ba z.2).1, (He.ba z.2).2⟩),
    kMaker_init_1_place_key_store_stopped_fits_misfit_compare_unlike_unready_again,
    F27,
    PySem.W.mg_of X G (of_decide_eq_true q27),
    bread_family_1,
    F28,
    (let z := He.ba q28; ⟨of_decide_eq_true z.1, (He.ba z.2).1, (He.ba z.2).2⟩),
    bKind_row_1,
    F29,
    (let z := He.ba q29; ⟨of_decide_eq_true z.1, (He.ba z.2).1, (He.ba z.2).2⟩),
    bMaker_written_1,
    F30,
    PySem.W.mg_of X G (of_decide_eq_true q30),
    bshow_kind_1,
    F31,
    PySem.W.mg_of X G (of_decide_eq_true q31),
    bshow_family_1,
    F32,
    (let z := He.ba q32; ⟨of_decide_eq_true z.1, (He.ba z.2).1, (He.ba z.2).2⟩),
    bKind_eq_2,
    F33,
    (let z := He.ba q33; ⟨of_decide_eq_true z.1, (He.ba z.2).1, (He.ba z.2).2⟩),
    bMaker_eq_2,
    F34,
    (let z := He.ba q34; ⟨of_decide_eq_true z.1, (He.ba z.2).1, (He.ba z.2).2⟩),
    bFamily_eq_2,
    F35,
    PySem.W.mg_of X G (of_decide_eq_true q35),
    bmaker_1,
    F36,
    PySem.W.mg_of X G (of_decide_eq_true q36),
    bfamily_2,
    F37,
    PySem.W.mg_of X G (of_decide_eq_true q37),
    (let z := He.ba q38; let y := He.ba z.2; let x := He.ba y.2; ⟨z.1, y.1, x.1, of_decide_eq_true x.2⟩),
    PySem.W.mg_of X G (of_decide_eq_true q39),
    (noattr_of q40),
    (noattr_of q41),
    (noattr_of q42),
    (noattr_of q43),
    (noattr_of q44),
    (noattr_of q45),
    (noattr_of q46),
    (noattr_of q47),
    (noattr_of q48),
    (noattr_of q49),
    (let z := He.ba q50; let y := He.ba z.2; let x := He.ba y.2; ⟨z.1, of_decide_eq_true y.1, x.1, x.2⟩),
    (let z := He.ba q51; ⟨z.1, of_decide_eq_true z.2⟩),
    (let z := He.ba q52; let y := He.ba z.2; let x := He.ba y.2; ⟨z.1, y.1, x.1, of_decide_eq_true x.2⟩),
    PySem.W.mg_of X G (of_decide_eq_true q53),
    (noattr_of q54),
    (noattr_of q55),
    (noattr_of q56),
    (noattr_of q57),
    (let z := He.ba q58; let y := He.ba z.2; let x := He.ba y.2; ⟨z.1, of_decide_eq_true y.1, x.1, x.2⟩),
    (let z := He.ba q59; ⟨z.1, of_decide_eq_true z.2⟩),
    (let z := He.ba q60; let y := He.ba z.2; let x := He.ba y.2; ⟨z.1, y.1, x.1, of_decide_eq_true x.2⟩),
    PySem.W.mg_of X G (of_decide_eq_true q61),
    (noattr_of q62),
    (noattr_of q63),
    (let z := He.ba q64; let y := He.ba z.2; let x := He.ba y.2; ⟨z.1, of_decide_eq_true y.1, x.1, x.2⟩),
    (let z := He.ba q65; let y := He.ba z.2; let x := He.ba y.2; ⟨z.1, y.1, x.1, of_decide_eq_true x.2⟩),
    PySem.W.mg_of X G (of_decide_eq_true q66),
    (noattr_of q67),
    (noattr_of q68),
    (let z := He.ba q69; let y := He.ba z.2; let x := He.ba y.2; ⟨z.1, of_decide_eq_true y.1, x.1, x.2⟩),
    (let z := He.ba q70; ⟨z.1, of_decide_eq_true z.2⟩),
    PySem.W.mg_of X G (of_decide_eq_true q71),
    exmB_ok q72,
    own_ok q73,
    e_LETTERS,
    e_MOST_LETTERS,
    PySem.W.mg_of X G (of_decide_eq_true q76),
    (relW_ok (g := gK K) rfl q77).2,
    PySem.W.mg_of X G (of_decide_eq_true q78),
    ⟨c.tab 0, q79⟩,
    eqcB_ok (by decide) q80,
    eqcB_ok (by decide) q81,
    eqcB_ok (by decide) q82,
    cp_Family_MOST_KINDS,
    cq_Family_MOST_KINDS,
    cp_Maker_RULES,
    cq_Maker_RULES,
    PySem.W.mg_none_of X G (of_decide_eq_true q85),
    PySem.W.mg_none_of X G (of_decide_eq_true q86),
    PySem.W.mg_none_of X G (of_decide_eq_true q87),
    PySem.W.mg_none_of X G (of_decide_eq_true q88),
    PySem.W.mg_none_of X G (of_decide_eq_true q89),
    PySem.W.mg_none_of X G (of_decide_eq_true q90),
    PySem.W.mg_none_of X G (of_decide_eq_true q91),
    PySem.W.mg_none_of X G (of_decide_eq_true q92),
    PySem.W.mg_none_of X G (of_decide_eq_true q93),
    PySem.W.mg_none_of X G (of_decide_eq_true q94)⟩⟩
end DL
namespace DL
open PySem L2
theorem facts {P : Program} {w : World} {K : PySem.W.Frag} {h : Heap} {mg : Str → Option Value} {f : Addr} (X : K.In h) (G : h.Ns mainGlobals mg) (hfa : mg ("law" : Str) = some (.ref f)) (c : SaysN fbs fns tbs w K) :
    ∃ fd : FuncData, (∀ (s : Shared) (v : Value), BindsTo s fd ⟨[v], []⟩ [("_law_script", v)]) ∧ ∀ base : Heap, K.In base → base.Ns mainGlobals mg → FnOk P w K mg base CX0 7 f fd ["_law_script"] (spLaw K) := by
  obtain ⟨ad, _, T⟩ := tx_mk X G c
  have e := hfa.symm.trans T.g_law
  cases e
  have b := FunD.bindsA (ps := ["_law_script"]) T.F_law fun _ _ _ _ _ _ us hl => match us, hl with | [_], _ => rfl
  exact ⟨ad.d_law, fun s v => b s [v] rfl, fun base _ _ => law_end (ok_law T) law_true⟩
end DL

open PySem PySem.W PySem.Calls PyProof.Rows in
set_option maxRecDepth 100000 in
set_option maxHeartbeats 0 in
theorem PySem.Challenge.cw_oneandonly_k11_texts_read_holds : PySem.Challenge.rw_oneandonly_k11_texts_read.Holds := by
  w_on; o_law
  refine HandSHeadRun.head_any (r := OpenLaw.row PySem.Challenge.rw_oneandonly_k11_texts_read) (q := DL.qv) (H := DL.hk) (ob := DL.ob) (M := 20000) (loose := DL.names) (d := HandSHeadRun.topDef (OpenLaw.row PySem.Challenge.rw_oneandonly_k11_texts_read).prog 55) (kwd := []) DL.ob_eq
    (by kernel_rfl) (fun s => by kernel_rfl) DL.run (by kernel_rfl) (by kernel_rfl) (by kernel_rfl) (by rfl) (by first | assumption | decide +kernel) (by decide +kernel) ⟨rfl, rfl, rfl, rfl, rfl, by decide +kernel⟩ ?hw ?hc
  case hw => w_witness2
  case hc =>
    refine L2.walk_ofE (l := PySem.Challenge.rw_oneandonly_k11_texts_read) (n := 63) (k := 7) (x := "_law_script") (CX := L2.CX0) rfl (by decide) (by kernel_rfl) ⟨rfl, by decide, by decide⟩ ?F (fun _ _ _ _ z => z)
    intro w mg fa h Y G hmg0
    obtain ⟨K, KX, c⟩ := Y
    have hmg : mg ("law" : PySem.Str) = some (.ref fa) := by
      have e : (HandSHeadRun.topDef (OpenLaw.row PySem.Challenge.rw_oneandonly_k11_texts_read).prog 55).name = ("law" : PySem.Str) := by kernel_rfl
      rw [← e]
      exact hmg0
    obtain ⟨fd, hb, hF⟩ := DL.facts (P := (PySem.Challenge.rw_oneandonly_k11_texts_read).prog) (w := w) KX G hmg c
    exact ⟨K, fd, DL.spLaw K, KX, hb, fun H a ns hl _ hS => ⟨a, ns, rfl, hS, fun _ => rfl⟩, hF⟩
