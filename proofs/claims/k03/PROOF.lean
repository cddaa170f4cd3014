import PyProof.Rows.All
import Wide.All
import OpenK.AllK
import Wide.FinOn
import HandS.ForMost
import HandS.ForExc
import HandS.IsInst
import HandS.Wide
import HandS.Walk
import HandS.TupAny
import HandS.Zip
import HandS.Codes
import HandS.CallSlots
import HandS.Star
import HandS.MakeKw
import HandS.MakeKwOnly
import HandS.ClsMeth
import HandS.SlotsOwn
import HandS.OwnEq
import HandS.Deep
import HandS.Head0
import HandS.Head1
import HandS.Head2
import HandS.HeadEnd
import HandS.HeadHook1
import HandS.HeadHook2
import HandS.HeadHook3
import HandS.WrittenGet
import Wide.Once
import KE.KStateDown
import Lean
import PyProof.InstNe
import KE.GoesEnum
import HandS.ExcInit
import HandS.ExcField
import HandS.ExcIs
import KE.KExcInit
import HandS.Strs
import HandS.SortInts
import KE.KParD
import HandS.Style
import KE.KEqNest
import HandS.ExcCtx
import HandS.Hot
import HandS.HotCalls
import HandS.SuiteRaise
import HandS.RaiseFrom
import HandS.ExcInitHot
import HandS.DictComp
import HandS.Property
import HandS.Finally
import KE.KDictKeyed
import KE.KeyNested
import KE.KDictZip
import PySem.Challenge.RW_oneandonly_k03_makers_refused
set_option Elab.async false
set_option linter.all false
set_option maxRecDepth 100000
set_option maxHeartbeats 4000000
set_option synthInstance.maxHeartbeats 1000000
set_option synthInstance.maxSize 100000
/-! ### DL: data over the hand layer -/
namespace DL
open PySem L2
/-- data: what never changes, by value; what changes, by its place -/
inductive D where
  | non | bl (b : Bool) | int (i : Int) | str (z : Str)
  | tup (xs : List D) | lst (xs : List D) | dic (ks : List Key) (vs : List D)
  | ins (c : Str) (ns : List Str) (vs : List D)
  | ref (a : Addr) | cls (c : Str) | cst (x : Str) | ty (n : String) | scr
/-- what stands at a place that may change -/
inductive Ob where
  | bag (c : Addr) | raw | lst (xs : List D) | dic (kvs : List (Key × D)) | ins (c : Str) (fs : List (Str × D))
/-- the places that may change -/
structure S where
  map : Addr → Option Ob
  fin : ∃ N, ∀ a, N ≤ a → map a = none
theorem S.ext {s t : S} (h : ∀ a, s.map a = t.map a) : s = t := by
  obtain ⟨m, f⟩ := s; obtain ⟨m', f'⟩ := t
  have : m = m' := funext h
  subst this; rfl
def S.set (s : S) (a : Addr) (o : Ob) : S := ⟨fun b => if b = a then some o else s.map b, by
  obtain ⟨N, h⟩ := s.fin
  refine ⟨N + a + 1, fun b hb => ?_⟩
  rw [if_neg (Nat.ne_of_gt (Nat.lt_of_lt_of_le (Nat.lt_of_le_of_lt (Nat.le_add_left a N) (Nat.lt_succ_self _)) hb))]; exact h b (Nat.le_trans (Nat.le_trans (Nat.le_add_right N a) (Nat.le_succ _)) hb)⟩
def S.del (s : S) (a : Addr) : S := ⟨fun b => if b = a then none else s.map b, by
  obtain ⟨N, h⟩ := s.fin
  refine ⟨N, fun b hb => ?_⟩
  show (if b = a then none else s.map b) = none
  split
  · rfl
  · exact h b hb⟩
theorem S.set_same {s : S} {a : Addr} {o : Ob} : (s.set a o).map a = some o := if_pos rfl
theorem S.set_ne {s : S} {a b : Addr} {o : Ob} (h : b ≠ a) : (s.set a o).map b = s.map b := if_neg h
theorem S.del_same {s : S} {a : Addr} : (s.del a).map a = none := if_pos rfl
theorem S.del_ne {s : S} {a b : Addr} (h : b ≠ a) : (s.del a).map b = s.map b := if_neg h
theorem S.del_set {s : S} {a : Addr} {o : Ob} (h : s.map a = none) : (s.set a o).del a = s := by
  refine S.ext fun b => ?_
  by_cases e : b = a
  · subst e; rw [S.del_same, h]
  · rw [S.del_ne e, S.set_ne e]
theorem S.set_set {s : S} {a : Addr} {o p : Ob} : (s.set a o).set a p = s.set a p := by
  refine S.ext fun b => ?_
  by_cases e : b = a
  · subst e; rw [S.set_same, S.set_same]
  · rw [S.set_ne e, S.set_ne e, S.set_ne e]
theorem S.fresh (s : S) : ∃ a, s.map a = none := let ⟨N, h⟩ := s.fin; ⟨N, h N (Nat.le_refl _)⟩
theorem upd_none {H : Hp} {a p : Addr} {o : HO} (h : upd H a o p = none) : p ≠ a ∧ H p = none := by
  by_cases e : p = a
  · subst e; rw [upd_same] at h; cases h
  · rw [upd_ne e] at h; exact ⟨e, h⟩
theorem none_upd {H : Hp} {a p : Addr} {o : HO} (n : p ≠ a) (h : H p = none) : upd H a o p = none := by
  rw [upd_ne n]; exact h
theorem same_upd {H : Hp} {p : Addr} {o : HO} (n : H p = none) : Same H (upd H p o) := fun b u h => by
  rw [upd_ne (ne_of_none h n)]; exact h
theorem same_at {H0 H : Hp} {d : Addr} {o : HO} (s : Same H0 H) (n : H0 d = none) : Same H0 (upd H d o) := fun q u h => by
  rw [upd_ne (ne_of_none h n)]; exact s _ _ h
/-- the written part, the places of classes and constants -/
structure G where
  K : PySem.W.Frag
  cl : Str → Addr
  cs : Str → Addr
mutual
/-- the value v is the datum d, by what never changes -/
def RelD (g : G) (F : Hp) : D → V → Prop
  | .non, v => v = .non
  | .bl b, v => v = .bl b
  | .int i, v => v = .int i
  | .str z, v => v = .str z
  | .tup ds, v => ∃ a vs, v = .ref a ∧ SqT g.K F a vs ∧ RelDs g F ds vs
  | .lst ds, v => ∃ a vs, v = .ref a ∧ F a = some (.lst vs) ∧ RelDs g F ds vs
  | .dic ks ds, v => ∃ a kvs, v = .ref a ∧ F a = some (.dK kvs) ∧ kvs.map (·.1) = ks ∧ RelDs g F ds (kvs.map (·.2))
  | .ins c ns ds, v => ∃ a dx fs, v = .ref a ∧ F a = some (.ins (g.cl c) dx fs) ∧ fs.map (·.1) = ns ∧ RelDs g F ds (fs.map (·.2))
  | .ref a, v => v = .ref a
  | .cls c, v => v = .ref (g.cl c)
  | .cst x, v => v = .ref (g.cs x)
  | .ty n, v => v = .ty n
  | .scr, v => ∃ (a : Addr) (ns : List Int), v = .ref a ∧ SqL g.K F a (ns.map V.int)
def RelDs (g : G) (F : Hp) : List D → List V → Prop
  | [], vs => vs = []
  | d :: ds, vs => ∃ v r, vs = v :: r ∧ RelD g F d v ∧ RelDs g F ds r
end
variable {g : G} {Z F F' H H' : Hp}
theorem sqT_mono {K : PySem.W.Frag} {a : Addr} {xs : List V} (e : Same H H') (h : SqT K H a xs) : SqT K H' a xs := by
  rcases h with (h | ⟨o, h⟩) | h
  · exact .inl (.inl (e _ _ h))
  · exact .inl (.inr ⟨o, e _ _ h⟩)
  · exact .inr h
mutual
theorem RelD.mono (s : Same F F') : ∀ {d : D} {v : V}, RelD g F d v → RelD g F' d v
  | .non, _, h => by unfold RelD at h ⊢; exact h
  | .bl _, _, h => by unfold RelD at h ⊢; exact h
  | .int _, _, h => by unfold RelD at h ⊢; exact h
  | .str _, _, h => by unfold RelD at h ⊢; exact h
  | .tup ds, _, h => by
    unfold RelD at h ⊢
    obtain ⟨a, vs, e, h1, h2⟩ := h
    exact ⟨a, vs, e, sqT_mono s h1, RelDs.mono s h2⟩
  | .lst ds, _, h => by
    unfold RelD at h ⊢
    obtain ⟨a, vs, e, h1, h2⟩ := h
    exact ⟨a, vs, e, s _ _ h1, RelDs.mono s h2⟩
  | .dic ks ds, _, h => by
    unfold RelD at h ⊢
    obtain ⟨a, kvs, e, h1, h2, h3⟩ := h
    exact ⟨a, kvs, e, s _ _ h1, h2, RelDs.mono s h3⟩
  | .ins c ns ds, _, h => by
    unfold RelD at h ⊢
    obtain ⟨a, dx, fs, e, h1, h2, h3⟩ := h
    exact ⟨a, dx, fs, e, s _ _ h1, h2, RelDs.mono s h3⟩
  | .ref _, _, h => by unfold RelD at h ⊢; exact h
  | .cls _, _, h => by unfold RelD at h ⊢; exact h
  | .cst _, _, h => by unfold RelD at h ⊢; exact h
  | .ty _, _, h => by unfold RelD at h ⊢; exact h
  | .scr, _, h => by
    unfold RelD at h ⊢
    obtain ⟨a, ns, e, h1⟩ := h
    exact ⟨a, ns, e, s.seq h1⟩
theorem RelDs.mono (s : Same F F') : ∀ {ds : List D} {vs : List V}, RelDs g F ds vs → RelDs g F' ds vs
  | [], _, h => by unfold RelDs at h ⊢; exact h
  | d :: ds, _, h => by
    unfold RelDs at h ⊢
    obtain ⟨v, r, e, h1, h2⟩ := h
    exact ⟨v, r, e, RelD.mono s h1, RelDs.mono s h2⟩
end
theorem RelDs.nil : RelDs g F [] [] := by unfold RelDs; rfl
theorem RelDs.cons {d : D} {ds : List D} {v : V} {vs : List V} (h : RelD g F d v) (t : RelDs g F ds vs) : RelDs g F (d :: ds) (v :: vs) := by
  unfold RelDs; exact ⟨v, vs, rfl, h, t⟩
theorem RelDs.nil_inv {vs : List V} (h : RelDs g F [] vs) : vs = [] := by unfold RelDs at h; exact h
theorem RelDs.cons_inv {d : D} {ds : List D} {vs : List V} (h : RelDs g F (d :: ds) vs) : ∃ v r, vs = v :: r ∧ RelD g F d v ∧ RelDs g F ds r := by unfold RelDs at h; exact h
theorem RelDs.len : ∀ {ds : List D} {vs : List V}, RelDs g F ds vs → vs.length = ds.length
  | [], _, h => by rw [h.nil_inv]; rfl
  | _ :: _, _, h => by
    obtain ⟨v, r, e, _, h2⟩ := h.cons_inv
    rw [e]; simp [h2.len]
theorem RelDs.append : ∀ {ds es : List D} {vs us : List V}, RelDs g F ds vs → RelDs g F es us → RelDs g F (ds ++ es) (vs ++ us)
  | [], _, _, _, h, k => by rw [h.nil_inv]; exact k
  | _ :: _, _, _, _, h, k => by
    obtain ⟨v, r, e, h1, h2⟩ := h.cons_inv
    rw [e]; exact .cons h1 (h2.append k)
theorem RelDs.one {d : D} {v : V} (h : RelD g F d v) : RelDs g F [d] [v] := .cons h .nil
theorem RelDs.get : ∀ {ds : List D} {vs : List V} {i : Nat} {d : D}, RelDs g F ds vs → ds[i]? = some d → ∃ v, vs[i]? = some v ∧ RelD g F d v
  | [], _, _, _, _, e => by simp at e
  | x :: ds, _, 0, d, h, e => by
    obtain ⟨v, r, e', h1, _⟩ := h.cons_inv
    simp at e; subst e; subst e'; exact ⟨v, rfl, h1⟩
  | x :: ds, _, i + 1, d, h, e => by
    obtain ⟨v, r, e', _, h2⟩ := h.cons_inv
    subst e'
    obtain ⟨u, h3, h4⟩ := h2.get (i := i) (d := d) (by simpa using e)
    exact ⟨u, by simpa using h3, h4⟩
theorem RelDs.get' : ∀ {ds : List D} {vs : List V} {i : Nat} {v : V}, RelDs g F ds vs → vs[i]? = some v → ∃ d, ds[i]? = some d ∧ RelD g F d v := fun {ds vs i v} h e => by
  have hl : i < vs.length := (List.getElem?_eq_some_iff.mp e).1
  rw [h.len] at hl
  obtain ⟨u, h1, h2⟩ := h.get (i := i) (d := ds[i]) (by simp [hl])
  rw [e] at h1; cases h1
  exact ⟨_, by simp [hl], h2⟩
theorem RelDs.set {d : D} {v : V} (k : RelD g F d v) : ∀ {ds : List D} {vs : List V} (i : Nat), RelDs g F ds vs → RelDs g F (ds.set i d) (vs.set i v)
  | [], _, _, h => by rw [h.nil_inv]; exact .nil
  | x :: ds, _, 0, h => by
    obtain ⟨u, r, e, _, h2⟩ := h.cons_inv
    rw [e]; exact .cons k h2
  | x :: ds, _, i + 1, h => by
    obtain ⟨u, r, e, h1, h2⟩ := h.cons_inv
    rw [e]; exact .cons h1 (h2.set k i)
theorem RelDs.take : ∀ {ds : List D} {vs : List V} (n : Nat), RelDs g F ds vs → RelDs g F (ds.take n) (vs.take n)
  | _, _, 0, _ => by simp; exact .nil
  | [], _, n + 1, h => by rw [h.nil_inv]; exact .nil
  | x :: ds, _, n + 1, h => by
    obtain ⟨u, r, e, h1, h2⟩ := h.cons_inv
    rw [e]; exact .cons h1 (h2.take n)
theorem RelDs.drop : ∀ {ds : List D} {vs : List V} (n : Nat), RelDs g F ds vs → RelDs g F (ds.drop n) (vs.drop n)
  | _, _, 0, h => h
  | [], _, n + 1, h => by rw [h.nil_inv]; exact .nil
  | x :: ds, _, n + 1, h => by
    obtain ⟨u, r, e, h1, h2⟩ := h.cons_inv
    rw [e]; exact h2.drop n
/-- what stands at a place that may change -/
def ObR (g : G) (st : S) (F H : Hp) (a : Addr) : Ob → Prop
  | .bag c => st.map c = some .raw ∧ ∃ (seed cnt pos left big : Int), H a = some (.lst [.ref c, .int seed, .int cnt, .int pos, .int left, .int big]) ∧ 0 ≤ pos
  | .raw => ∃ ns : List Int, H a = some (.lst (ns.map V.int))
  | .lst ds => ∃ vs, H a = some (.lst vs) ∧ RelDs g F ds vs
  | .dic kds => ∃ kvs, H a = some (.dK kvs) ∧ kvs.map (·.1) = kds.map (·.1) ∧ RelDs g F (kds.map (·.2)) (kvs.map (·.2))
  | .ins c fds => ∃ dx fs, H a = some (.ins (g.cl c) dx fs) ∧ fs.map (·.1) = fds.map (·.1) ∧ RelDs g F (fds.map (·.2)) (fs.map (·.2))
/-- Z: what nobody touches for now; st: the places that may change; F: what never changes -/
structure Sim (g : G) (Z : Hp) (st : S) (F H : Hp) : Prop where
  same : Same F H
  ob : ∀ a o, st.map a = some o → F a = none ∧ ObR g st F H a o
  pin : ∀ a o, Z a = some o → F a = none ∧ st.map a = none ∧ H a = some o
theorem ObR.there {st : S} {a : Addr} {o : Ob} (h : ObR g st F H a o) : ∃ u, H a = some u := by
  cases o with
  | bag c => obtain ⟨_, _, _, _, _, _, e, _⟩ := h; exact ⟨_, e⟩
  | raw => obtain ⟨_, e⟩ := h; exact ⟨_, e⟩
  | lst ds => obtain ⟨_, e, _⟩ := h; exact ⟨_, e⟩
  | dic ds => obtain ⟨_, e, _⟩ := h; exact ⟨_, e⟩
  | ins c ds => obtain ⟨_, _, e, _⟩ := h; exact ⟨_, e⟩
theorem Sim.free {st : S} {p : Addr} (s : Sim g Z st F H) (n : H p = none) : F p = none ∧ st.map p = none := by
  refine ⟨s.same.free n, ?_⟩
  cases e : st.map p with
  | none => rfl
  | some o =>
    obtain ⟨u, hu⟩ := (s.ob p o e).2.there
    rw [n] at hu; cases hu
/-- what a place's description leans on -/
theorem ObR.move {st st' : S} {a : Addr} {o : Ob} (h : ObR g st F H a o) (hF : Same F F') (ha : H' a = H a) (hc : ∀ c, st.map c = some .raw → st'.map c = some .raw) : ObR g st' F' H' a o := by
  cases o with
  | bag c => obtain ⟨m, sd, cn, ps, l, b, e2, p⟩ := h; exact ⟨hc c m, sd, cn, ps, l, b, ha.trans e2, p⟩
  | raw => obtain ⟨ns, e⟩ := h; exact ⟨ns, ha.trans e⟩
  | lst ds => obtain ⟨vs, e, r⟩ := h; exact ⟨vs, ha.trans e, r.mono hF⟩
  | dic ds => obtain ⟨vs, e, k, r⟩ := h; exact ⟨vs, ha.trans e, k, r.mono hF⟩
  | ins c ds => obtain ⟨dx, vs, e, k, r⟩ := h; exact ⟨dx, vs, ha.trans e, k, r.mono hF⟩
/-- a new thing that never changes -/
theorem Sim.new {st : S} {p : Addr} {o : HO} (s : Sim g Z st F H) (n : H p = none) : Sim g Z st (upd F p o) (upd H p o) := by
  obtain ⟨nF, nS⟩ := s.free n
  refine ⟨fun b u h => ?_, fun a u e => ?_, fun a u e => ?_⟩
  · by_cases q : b = p
    · subst q; rw [upd_same] at h ⊢; exact h
    · rw [upd_ne q] at h ⊢; exact s.same _ _ h
  · have hp : a ≠ p := by rintro rfl; rw [nS] at e; cases e
    obtain ⟨f, r⟩ := s.ob a u e
    exact ⟨by rw [upd_ne hp]; exact f, r.move (same_upd nF) (upd_ne hp) fun _ m => m⟩
  · obtain ⟨f, m, h⟩ := s.pin a u e
    have hp : a ≠ p := ne_of_none h n
    exact ⟨by rw [upd_ne hp]; exact f, m, by rw [upd_ne hp]; exact h⟩
/-- a thing of no interest -/
theorem Sim.junk {st : S} {p : Addr} {o : HO} (s : Sim g Z st F H) (n : H p = none) : Sim g Z st F (upd H p o) := by
  obtain ⟨nF, nS⟩ := s.free n
  refine ⟨same_at s.same nF, fun a u e => ?_, fun a u e => ?_⟩
  · have hp : a ≠ p := by rintro rfl; rw [nS] at e; cases e
    obtain ⟨f, r⟩ := s.ob a u e
    exact ⟨f, r.move (Same.refl _) (upd_ne hp) fun _ m => m⟩
  · obtain ⟨f, m, h⟩ := s.pin a u e
    exact ⟨f, m, by rw [upd_ne (ne_of_none h n)]; exact h⟩
/-- a new place, or what stands at an old one changes -/
theorem Sim.put {st : S} {p : Addr} {o : HO} {ob : Ob} (s : Sim g Z st F H) (f : F p = none) (hp : H p = none ∨ ∃ u, st.map p = some u ∧ u ≠ .raw) (r : ObR g (st.set p ob) F (upd H p o) p ob) : Sim g Z (st.set p ob) F (upd H p o) := by
  have np : ∀ c, st.map c = some .raw → c ≠ p := fun c m q => by
    subst q
    rcases hp with n | ⟨v, e, d⟩
    · rw [(s.free n).2] at m; cases m
    · rw [m] at e; exact d (Option.some.inj e).symm
  have nz : ∀ a u, Z a = some u → a ≠ p := fun a u e q => by
    subst q
    obtain ⟨_, m, h⟩ := s.pin a u e
    rcases hp with n | ⟨v, e2, _⟩
    · rw [n] at h; cases h
    · rw [m] at e2; cases e2
  refine ⟨same_at s.same f, fun a u e => ?_, fun a u e => ?_⟩
  · by_cases q : a = p
    · subst q
      rw [S.set_same] at e; cases e
      exact ⟨f, r⟩
    · rw [S.set_ne q] at e
      obtain ⟨f1, r1⟩ := s.ob a u e
      exact ⟨f1, r1.move (Same.refl _) (upd_ne q) fun c m => by rw [S.set_ne (np c m)]; exact m⟩
  · obtain ⟨f1, m, h⟩ := s.pin a u e
    have q := nz a u e
    exact ⟨f1, by rw [S.set_ne q]; exact m, by rw [upd_ne q]; exact h⟩
/-- a place is let go: it never changes again -/
theorem Sim.keep {st : S} {p : Addr} {o : HO} {ob : Ob} (s : Sim g Z st F H) (e : st.map p = some ob) (h : H p = some o) (nb : ob ≠ .raw) : Sim g Z (st.del p) (upd F p o) H := by
  obtain ⟨f, _⟩ := s.ob p ob e
  refine ⟨fun b u q => ?_, fun a u q => ?_, fun a u q => ?_⟩
  · by_cases z : b = p
    · subst z; rw [upd_same] at q; rw [← q]; exact h
    · rw [upd_ne z] at q; exact s.same _ _ q
  · have z : a ≠ p := by rintro rfl; rw [S.del_same] at q; cases q
    rw [S.del_ne z] at q
    obtain ⟨f1, r1⟩ := s.ob a u q
    refine ⟨by rw [upd_ne z]; exact f1, r1.move (same_upd f) rfl fun c m => ?_⟩
    rw [S.del_ne (by rintro rfl; rw [e] at m; exact nb (Option.some.inj m))]; exact m
  · obtain ⟨f1, m, h1⟩ := s.pin a u q
    have hc : a ≠ p := by rintro rfl; rw [e] at m; cases m
    exact ⟨by rw [upd_ne hc]; exact f1, by rw [S.del_ne hc]; exact m, h1⟩
/-- one place more that nobody touches -/
theorem Sim.pinNew {st : S} {p : Addr} {o : HO} (s : Sim g Z st F H) (n : H p = none) : Sim g (upd Z p o) st F (upd H p o) := by
  obtain ⟨nF, nS⟩ := s.free n
  have j := s.junk (o := o) n
  refine ⟨j.same, j.ob, fun a u e => ?_⟩
  by_cases q : a = p
  · subst q; rw [upd_same] at e; cases e; exact ⟨nF, nS, upd_same⟩
  · rw [upd_ne q] at e
    exact j.pin a u e
/-- .. changed by its owner -/
theorem Sim.pinSet {st : S} {p : Addr} {o o' : HO} (s : Sim g (upd Z p o) st F H) : Sim g (upd Z p o') st F (upd H p o') := by
  obtain ⟨nF, nS, h⟩ := s.pin p o upd_same
  refine ⟨same_at s.same nF, fun a u q => ?_, fun a u q => ?_⟩
  · have hp : a ≠ p := by rintro rfl; rw [nS] at q; cases q
    obtain ⟨f, r⟩ := s.ob a u q
    exact ⟨f, r.move (Same.refl _) (upd_ne hp) fun _ m => m⟩
  · by_cases z : a = p
    · subst z; rw [upd_same] at q; cases q; exact ⟨nF, nS, upd_same⟩
    · rw [upd_ne z] at q
      obtain ⟨f1, m, h1⟩ := s.pin a u (by rw [upd_ne z]; exact q)
      exact ⟨f1, m, by rw [upd_ne z]; exact h1⟩
/-- .. let go: it never changes -/
theorem Sim.pinKeep {st : S} {p : Addr} {o : HO} (s : Sim g (upd Z p o) st F H) (z : Z p = none) : Sim g Z st (upd F p o) H := by
  obtain ⟨nF, nS, h⟩ := s.pin p o upd_same
  refine ⟨fun b u q => ?_, fun a u q => ?_, fun a u q => ?_⟩
  · by_cases y : b = p
    · subst y; rw [upd_same] at q; rw [← q]; exact h
    · rw [upd_ne y] at q; exact s.same _ _ q
  · have hp : a ≠ p := by rintro rfl; rw [nS] at q; cases q
    obtain ⟨f, r⟩ := s.ob a u q
    exact ⟨by rw [upd_ne hp]; exact f, r.move (same_upd nF) rfl fun _ m => m⟩
  · have hp : a ≠ p := by rintro rfl; rw [z] at q; cases q
    obtain ⟨f1, m, h1⟩ := s.pin a u (by rw [upd_ne hp]; exact q)
    exact ⟨by rw [upd_ne hp]; exact f1, m, h1⟩
/-- .. taken among the places that may change -/
theorem Sim.pinPut {st : S} {p : Addr} {o : HO} {ob : Ob} (s : Sim g (upd Z p o) st F H) (z : Z p = none) (r : ObR g (st.set p ob) F H p ob) : Sim g Z (st.set p ob) F H := by
  obtain ⟨nF, nS, h⟩ := s.pin p o upd_same
  refine ⟨s.same, fun a u q => ?_, fun a u q => ?_⟩
  · by_cases y : a = p
    · subst y; rw [S.set_same] at q; cases q; exact ⟨nF, r⟩
    · rw [S.set_ne y] at q
      obtain ⟨f, r⟩ := s.ob a u q
      exact ⟨f, r.move (Same.refl _) rfl fun c m => by rw [S.set_ne (by rintro rfl; rw [nS] at m; cases m)]; exact m⟩
  · have hp : a ≠ p := by rintro rfl; rw [z] at q; cases q
    obtain ⟨f1, m, h1⟩ := s.pin a u (by rw [upd_ne hp]; exact q)
    exact ⟨f1, by rw [S.set_ne hp]; exact m, h1⟩
theorem Sim.zfree {st : S} {p : Addr} (s : Sim g Z st F H) (n : H p = none) : Z p = none := by
  cases e : Z p with
  | none => rfl
  | some o => rw [(s.pin p o e).2.2] at n; cases n
end DL

/-! ### the monad of mirrors, the judgements -/
namespace DL
open PySem L2
abbrev Env := List (Option D)
/-- an exception: its class, its fields -/
structure Ex where
  c : Str
  ns : List Str
  vs : List D
abbrev M (ε α : Type) := S → (α → S → Prop) → (ε → S → Prop) → Prop
def pureM {ε α : Type} (a : α) : M ε α := fun s Q _ => Q a s
def bindM {ε α β : Type} (m : M ε α) (f : α → M ε β) : M ε β := fun s Q E => m s (fun a s' => f a s' Q E) E
def failM {ε α : Type} : M ε α := fun _ _ _ => False
def raiseM {ε α : Type} (x : ε) : M ε α := fun s _ E => E x s
/-- a look at the places -/
def seeM {ε α : Type} (r : S → Option α) : M ε α := fun s Q _ => ∃ a, r s = some a ∧ Q a s
/-- a demand -/
def needM {ε : Type} (p : Prop) : M ε Unit := fun s Q _ => p ∧ Q () s
theorem pure_bindM {ε α β : Type} (a : α) (f : α → M ε β) : bindM (pureM a) f = f a := rfl
theorem bind_pureM {ε α : Type} (m : M ε α) : bindM m pureM = m := rfl
theorem bind_bindM {ε α β γ : Type} (m : M ε α) (f : α → M ε β) (k : β → M ε γ) : bindM (bindM m f) k = bindM m fun a => bindM (f a) k := rfl
theorem raise_bindM {ε α β : Type} (x : ε) (f : α → M ε β) : bindM (raiseM x) f = raiseM x := rfl
theorem seeM_some {ε α : Type} (a : α) : (seeM (fun _ => some a) : M ε α) = pureM a := by
  funext s Q E
  exact propext ⟨fun ⟨b, h, q⟩ => by cases h; exact q, fun q => ⟨a, rfl, q⟩⟩
def Mono {ε α : Type} (m : M ε α) : Prop := ∀ s (Q Q' : α → S → Prop) (E E' : ε → S → Prop), (∀ a s, Q a s → Q' a s) → (∀ x s, E x s → E' x s) → m s Q E → m s Q' E'
section
variable {ε α β : Type}
theorem mono_pure (a : α) : Mono (pureM a : M ε α) := fun _ _ _ _ _ hq _ h => hq _ _ h
theorem mono_bind {m : M ε α} {f : α → M ε β} (h : Mono m) (k : ∀ a, Mono (f a)) : Mono (bindM m f) := fun s _ _ _ _ hq he => h s _ _ _ _ (fun a s' => k a s' _ _ _ _ hq he) he
theorem mono_fail : Mono (failM : M ε α) := fun _ _ _ _ _ _ _ h => h
theorem mono_raise (x : ε) : Mono (raiseM x : M ε α) := fun _ _ _ _ _ _ he h => he _ _ h
theorem mono_see (r : S → Option α) : Mono (seeM r : M ε α) := fun _ _ _ _ _ hq _ ⟨a, e, q⟩ => ⟨a, e, hq _ _ q⟩
theorem mono_need (p : Prop) : Mono (needM p : M ε Unit) := fun _ _ _ _ _ hq _ ⟨a, q⟩ => ⟨a, hq _ _ q⟩
theorem mono_ite {c : Prop} [Decidable c] {m n : M ε α} (h : Mono m) (k : Mono n) : Mono (if c then m else n) := by split <;> assumption
end
/-- the exception u with the dict at d -/
def RelEx (g : G) (F : Hp) (u : Value) (d : Option Addr) (x : Ex) : Prop :=
  u = .ref (g.cl x.c) ∧ ((x.ns = [] ∧ d = none) ∨ ∃ a fs, d = some a ∧ F a = some (.xd fs) ∧ fs.map (·.1) = x.ns ∧ RelDs g F x.vs (fs.map (·.2)))
def REnv (g : G) (F : Hp) (σ : St) (ρ : Env) : Prop := σ.length = ρ.length ∧ ∀ (i : Nat) (d : D), ρ[i]? = some (some d) → ∃ v, σ[i]? = some (some v) ∧ RelD g F d v
variable {g : G} {Z F F' H H' : Hp} {W : WX} {σ : St} {ρ : Env} {st : S} {α β γ δ : Type}
theorem REnv.mono (s : Same F F') (h : REnv g F σ ρ) : REnv g F' σ ρ := ⟨h.1, fun i d e => let ⟨v, h1, h2⟩ := h.2 i d e; ⟨v, h1, h2.mono s⟩⟩
theorem REnv.set {i : Nat} {d : D} {v : V} (h : REnv g F σ ρ) (r : RelD g F d v) : REnv g F (σ.set i (some v)) (ρ.set i (some d)) := by
  refine ⟨by simp [h.1], fun j x e => ?_⟩
  by_cases q : i = j
  · subst q
    rw [List.getElem?_set_self'] at e ⊢
    cases k : ρ[i]? with
    | none => rw [k] at e; cases e
    | some o =>
      rw [k] at e
      have hl : i < σ.length := by rw [h.1]; exact (List.getElem?_eq_some_iff.mp k).1
      simp at e
      subst e
      rw [List.getElem?_eq_getElem hl]
      exact ⟨v, rfl, r⟩
  · rw [List.getElem?_set_ne q] at e ⊢
    exact h.2 j x e
theorem REnv.none {i : Nat} {o : Option V} (h : REnv g F σ ρ) : REnv g F (σ.set i o) (ρ.set i none) := by
  refine ⟨by simp [h.1], fun j x e => ?_⟩
  by_cases q : i = j
  · subst q
    rw [List.getElem?_set_self'] at e
    cases k : ρ[i]? with
    | none => rw [k] at e; cases e
    | some o => rw [k] at e; simp at e
  · rw [List.getElem?_set_ne q] at e ⊢
    exact h.2 j x e
def Lk (g : G) (W : WX) (Z F : Hp) (E : Ex → Env → S → Prop) : Prop := ∀ x ρ st F' H' u d σ, Same F F' → Sim g Z st F' H' → REnv g F' σ ρ → RelEx g F' u d x → E x ρ st → W u d σ H'
theorem Lk.mono {E : Ex → Env → S → Prop} (s : Same F F') (h : Lk g W Z F E) : Lk g W Z F' E := fun x ρ st F2 H2 u d σ s2 => h x ρ st F2 H2 u d σ (s.trans s2)
structure Now (g : G) (W : WX) (Z : Hp) (σ : St) (H F : Hp) (ρ : Env) (st : S) (E : Ex → Env → S → Prop) : Prop where
  sim : Sim g Z st F H
  env : REnv g F σ ρ
  lk : Lk g W Z F E
def Res (g : G) (R : Hp → α → β → Prop) (Z F : Hp) (Q : β → Hp → Prop) : α → S → Prop := fun d st' => ∀ v F' H', Same F F' → Sim g Z st' F' H' → R F' d v → Q v H'
theorem Res.mono {R : Hp → α → β → Prop} {Q : β → Hp → Prop} {a : α} {s : S} (e : Same F F') (h : Res g R Z F Q a s) : Res g R Z F' Q a s := fun v F2 H2 s2 => h v F2 H2 (e.trans s2)
/-- the reading of a mirror -/
def tX (g : G) (R : Hp → α → β → Prop) (W : WX) (m : Env → M Ex α) : St → Hp → (β → Hp → Prop) → Prop := fun σ H Q => ∃ Z F st ρ E, Now g W Z σ H F ρ st E ∧ m ρ st (Res g R Z F Q) (fun x s => E x ρ s)
theorem tX.go {R1 : Hp → α → β → Prop} {R2 : Hp → γ → δ → Prop} {n : Env → M Ex α} {k : α → M Ex γ} {Q : δ → Hp → Prop} {P : β → Hp → Prop} {E : Ex → Env → S → Prop} (N : Now g W Z σ H F ρ st E) (hn : Mono (n ρ)) (hk : ∀ a, Mono (k a))
    (q : bindM (n ρ) k st (Res g R2 Z F Q) (fun x s => E x ρ s)) (next : ∀ d v F2 st2 H2, Same F F2 → Now g W Z σ H2 F2 ρ st2 E → R1 F2 d v → k d st2 (Res g R2 Z F2 Q) (fun x s => E x ρ s) → P v H2) : tX g R1 W n σ H P := by
  refine ⟨Z, F, st, ρ, E, N, hn _ _ _ _ _ (fun d s hk1 v F' H' e sim r => ?_) (fun _ _ x => x) q⟩
  exact next d v F' s H' e ⟨sim, N.env.mono e, N.lk.mono e⟩ r (hk d _ _ _ _ _ (fun _ _ z => z.mono e) (fun _ _ x => x) hk1)
/-- the end of a mirror: a value that is known -/
theorem tX.done {R : Hp → α → β → Prop} {Q : β → Hp → Prop} {d : α} {v : β} {E : Ex → Env → S → Prop} (N : Now g W Z σ H F ρ st E) (r : R F d v) (h : Res g R Z F Q d st) : Q v H := h v F H (Same.refl _) N.sim r
theorem Now.step {F2 H2 : Hp} {st2 : S} {E : Ex → Env → S → Prop} (N : Now g W Z σ H F ρ st E) (e : Same F F2) (s : Sim g Z st2 F2 H2) : Now g W Z σ H2 F2 ρ st2 E := ⟨s, N.env.mono e, N.lk.mono e⟩
abbrev RB : Hp → Bool → Bool → Prop := fun _ b c => b = c
/-- an expression, a test, arguments, with their mirrors -/
structure FE (g : G) (X : Cx) (W : WX) (e : Expr) (m : Env → M Ex D) : Prop where
  pe : PE X e (tX g (RelD g) W m)
  mono : ∀ ρ, Mono (m ρ)
structure FT (g : G) (X : Cx) (W : WX) (e : Expr) (m : Env → M Ex Bool) : Prop where
  pt : PT X e (tX g RB W m)
  mono : ∀ ρ, Mono (m ρ)
structure FA (g : G) (X : Cx) (W : WX) (es : List Expr) (m : Env → M Ex (List D)) : Prop where
  pa : PA X es (tX g (RelDs g) W m)
  mono : ∀ ρ, Mono (m ρ)
/-- `and`, `or` as a test -/
structure FW (g : G) (X : Cx) (W : WX) (e : Expr) (m : Env → M Ex Bool) : Prop where
  pw : PW X e (tX g RB W m)
  mono : ∀ ρ, Mono (m ρ)
variable {X : Cx} {e e1 e2 e3 : Expr} {pos : Pos}
theorem PE.imp {t t' : TE} (h : PE X e t) (k : ∀ σ H Q, t' σ H Q → t σ H Q) : PE X e t' := ⟨fun pins s σ H Q I q => h.run pins s σ H Q I (k _ _ _ q)⟩
theorem PT.imp {t t' : TT} (h : PT X e t) (k : ∀ σ H Q, t' σ H Q → t σ H Q) : PT X e t' := ⟨fun pins s σ H Q I q => h.run pins s σ H Q I (k _ _ _ q)⟩
theorem PW.imp {t t' : TT} (h : PW X e t) (k : ∀ σ H Q, t' σ H Q → t σ H Q) : PW X e t' := ⟨fun w pins s σ H Q I q => h.run w pins s σ H Q I (k _ _ _ q)⟩
theorem PA.imp {es : List Expr} {t t' : TA} (h : PA X es t) (k : ∀ σ H Q, t' σ H Q → t σ H Q) : PA X es t' := ⟨fun p pins s σ H Q I q => h.run p pins s σ H Q I (k _ _ _ q)⟩
theorem PS.imp {s : Stmt} {t t' : TS} (h : PS X s t) (k : ∀ D σ H, t' D σ H → t D σ H) : PS X s t' := ⟨fun pins s σ H D I q => h.run pins s σ H D I (k _ _ _ q)⟩
theorem PSs.imp {s : List Stmt} {t t' : TS} (h : PSs X s t) (k : ∀ D σ H, t' D σ H → t D σ H) : PSs X s t' := ⟨fun pins s σ H D I q => h.run pins s σ H D I (k _ _ _ q)⟩
/-! ### names, constants -/
def varO : Option (Option D) → M Ex D
  | some (some d) => pureM d
  | _ => failM
def var (i : Nat) : Env → M Ex D := fun ρ => varO ρ[i]?
theorem varO_inv {o : Option (Option D)} {Q : D → S → Prop} {E : Ex → S → Prop} (h : varO o st Q E) : ∃ d, o = some (some d) ∧ Q d st := by
  match o, h with
  | some (some d), h => exact ⟨d, rfl, h⟩
  | some none, h => exact h.elim
  | none, h => exact h.elim
theorem mono_var (i : Nat) (ρ : Env) : Mono (var i ρ) := by
  unfold var
  match ρ[i]? with
  | some (some d) => exact mono_pure _
  | some none => exact mono_fail
  | none => exact mono_fail
theorem fe_var (i : Nat) {x : Str} (hN : X.N[i]? = some x := by rfl) (hv : Vis X.env.scope x := by first | exact Or.inl rfl | exact Or.inr (Or.inl rfl) | exact Or.inr (Or.inr rfl)) (hd : (x == ("__debug__" : Str)) = false := by decide) (hcd : (x == ("__classdict__" : Str)) = false := by decide) :
    FE g X W (.Name x pos) (var i) := by
  refine ⟨PE.imp (pe_var hN hv hd hcd) fun σ H Q h => ?_, mono_var i⟩
  obtain ⟨Z, F, st, ρ, E, N, h⟩ := h
  obtain ⟨d, e, h⟩ := varO_inv h
  obtain ⟨v, e', r⟩ := N.env.2 i d e
  exact ⟨v, e', tX.done N r h⟩
def cst (d : D) : Env → M Ex D := fun _ => pureM d
theorem fe_cst {d : D} {v : V} (h : PE X e (tC v)) (r : ∀ F, RelD g F d v) : FE g X W e (cst d) :=
  ⟨PE.imp h fun σ H Q h => by
    obtain ⟨Z, F, st, ρ, E, N, h⟩ := h
    exact tX.done N (r F) h, fun _ => mono_pure _⟩
theorem relD_int {i : Int} : RelD g F (.int i) (.int i) := by unfold RelD; rfl
theorem relD_bl {b : Bool} : RelD g F (.bl b) (.bl b) := by unfold RelD; rfl
theorem relD_non : RelD g F .non .non := by unfold RelD; rfl
theorem relD_str {z : Str} : RelD g F (.str z) (.str z) := by unfold RelD; rfl
theorem relD_ref {a : Addr} : RelD g F (.ref a) (.ref a) := by unfold RelD; rfl
theorem relD_cls {c : Str} : RelD g F (.cls c) (.ref (g.cl c)) := by unfold RelD; rfl
theorem relD_cst {c : Str} : RelD g F (.cst c) (.ref (g.cs c)) := by unfold RelD; rfl
theorem relD_ty {n : String} : RelD g F (.ty n) (.ty n) := by unfold RelD; rfl
theorem fe_int {i : Int} {j} : FE g X W (.Constant (.int i) j pos) (cst (.int i)) := fe_cst pe_int fun _ => relD_int
theorem fe_bl {b : Bool} {j} : FE g X W (.Constant (.bool b) j pos) (cst (.bl b)) := fe_cst pe_bl fun _ => relD_bl
theorem fe_non {j} : FE g X W (.Constant .none j pos) (cst .non) := fe_cst pe_non fun _ => relD_non
theorem fe_str {z : Str} {j} : FE g X W (.Constant (.str z) j pos) (cst (.str z)) := fe_cst pe_str fun _ => relD_str
/-! ### tests and values -/
/-- from a value's reading to a test's -/
def asB : D → M Ex Bool
  | .bl b => pureM b
  | _ => failM
theorem mono_asB (d : D) : Mono (asB d) := by cases d <;> first | exact mono_pure _ | exact mono_fail
theorem asB_inv {d : D} {Q : Bool → S → Prop} {E : Ex → S → Prop} (h : asB d st Q E) : ∃ b, d = .bl b ∧ Q b st := by
  cases d with
  | bl b => exact ⟨b, rfl, h⟩
  | _ => exact h.elim
def liftT (m : Env → M Ex D) : Env → M Ex Bool := fun ρ => bindM (m ρ) asB
theorem mono_liftT {m : Env → M Ex D} (h : ∀ ρ, Mono (m ρ)) : ∀ ρ, Mono (liftT m ρ) := fun ρ => mono_bind (h ρ) mono_asB
theorem tX.test {m : Env → M Ex D} {Q : Bool → Hp → Prop} (hm : ∀ ρ, Mono (m ρ)) (h : tX g RB W (liftT m) σ H Q) : tX g (RelD g) W m σ H (fun x H' => ∃ k, x = .bl k ∧ Q k H') := by
  obtain ⟨Z, F, st, ρ, E, N, q⟩ := h
  refine tX.go N (hm ρ) mono_asB q fun d v F st H1 e N r q => ?_
  obtain ⟨b, rfl, q⟩ := asB_inv q
  unfold RelD at r
  exact ⟨b, r, tX.done N rfl q⟩
theorem ft_val {m : Env → M Ex D} (h : FE g X W e m) (he : ∀ whole, isTrue e X.env whole = (do let v ← whole; standAt e.pos; holding [v] (truthy v)) := by intro _; rfl) : FT g X W e (liftT m) :=
  ⟨PT.imp (pt_val h.pe he) fun _ _ _ q => tX.test h.mono q, mono_liftT h.mono⟩
def notT (m : Env → M Ex Bool) : Env → M Ex Bool := fun ρ => bindM (m ρ) fun b => pureM (!b)
theorem ft_not {m : Env → M Ex Bool} (h : FT g X W e m) : FT g X W (.UnaryOp .Not e pos) (notT m) :=
  ⟨PT.imp (pt_not h.pt) fun _ _ _ ⟨Z, F, st, ρ, E, N, q⟩ => tX.go N (h.mono ρ) (fun _ => mono_pure _) q fun d v F st H1 e N r q => by cases r; exact tX.done N rfl q,
   fun ρ => mono_bind (h.mono ρ) fun _ => mono_pure _⟩
def andT (m n : Env → M Ex Bool) : Env → M Ex Bool := fun ρ => bindM (m ρ) fun b => if b = true then n ρ else pureM false
def orT (m n : Env → M Ex Bool) : Env → M Ex Bool := fun ρ => bindM (m ρ) fun b => if b = true then pureM true else n ρ
theorem mono_andT {m n : Env → M Ex Bool} (h : ∀ ρ, Mono (m ρ)) (k : ∀ ρ, Mono (n ρ)) (ρ : Env) : Mono (andT m n ρ) := mono_bind (h ρ) fun _ => mono_ite (k ρ) (mono_pure _)
theorem mono_orT {m n : Env → M Ex Bool} (h : ∀ ρ, Mono (m ρ)) (k : ∀ ρ, Mono (n ρ)) (ρ : Env) : Mono (orT m n ρ) := mono_bind (h ρ) fun _ => mono_ite (mono_pure _) (k ρ)
theorem fw_one {op} (hw : op = .And ∨ op = .Or) {m : Env → M Ex Bool} (h : FT g X W e m) : FW g X W (.BoolOp op [e] pos) m := by
  rcases hw with rfl | rfl
  · exact ⟨PW.imp (pw_and1 h.pt) fun _ _ _ q => q, h.mono⟩
  · exact ⟨PW.imp (pw_or1 h.pt) fun _ _ _ q => q, h.mono⟩
theorem fw_and {m n : Env → M Ex Bool} {rest : List Expr} (h : FT g X W e m) (k : FW g X W (.BoolOp .And (e1 :: rest) pos) n) : FW g X W (.BoolOp .And (e :: e1 :: rest) pos) (andT m n) :=
  ⟨PW.imp (pw_and h.pt k.pw) fun _ _ _ ⟨Z, F, st, ρ, E, N, q⟩ => tX.go N (h.mono ρ) (fun _ => mono_ite (k.mono ρ) (mono_pure _)) q fun d v F st H1 e N r q => by
    cases r
    cases d with
    | true => exact ⟨Z, F, st, ρ, E, N, q⟩
    | false => exact tX.done N rfl q, mono_andT h.mono k.mono⟩
theorem fw_or {m n : Env → M Ex Bool} {rest : List Expr} (h : FT g X W e m) (k : FW g X W (.BoolOp .Or (e1 :: rest) pos) n) : FW g X W (.BoolOp .Or (e :: e1 :: rest) pos) (orT m n) :=
  ⟨PW.imp (pw_or h.pt k.pw) fun _ _ _ ⟨Z, F, st, ρ, E, N, q⟩ => tX.go N (h.mono ρ) (fun _ => mono_ite (mono_pure _) (k.mono ρ)) q fun d v F st H1 e N r q => by
    cases r
    cases d with
    | true => exact tX.done N rfl q
    | false => exact ⟨Z, F, st, ρ, E, N, q⟩, mono_orT h.mono k.mono⟩
theorem FW.ft {m : Env → M Ex Bool} (h : FW g X W e m) : FT g X W e m := ⟨h.pw.pt, h.mono⟩
/-- and, or, not as values of truth -/
def boolE (m : Env → M Ex Bool) : Env → M Ex D := fun ρ => bindM (m ρ) fun b => pureM (.bl b)
def andE (m n : Env → M Ex D) : Env → M Ex D := fun ρ => bindM (liftT m ρ) fun b => if b = true then n ρ else pureM (.bl false)
def orE (m n : Env → M Ex D) : Env → M Ex D := fun ρ => bindM (liftT m ρ) fun b => if b = true then pureM (.bl true) else n ρ
def notE (m : Env → M Ex D) : Env → M Ex D := fun ρ => bindM (liftT m ρ) fun b => pureM (.bl !b)
theorem tX.testGo {R2 : Hp → γ → δ → Prop} {m : Env → M Ex D} {k : Bool → M Ex γ} {Q : δ → Hp → Prop} {P : V → Hp → Prop} {E : Ex → Env → S → Prop} (N : Now g W Z σ H F ρ st E) (hm : Mono (m ρ)) (hk : ∀ a, Mono (k a)) (q : bindM (liftT m ρ) k st (Res g R2 Z F Q) (fun x s => E x ρ s))
    (next : ∀ b F2 st2 H2, Same F F2 → Now g W Z σ H2 F2 ρ st2 E → k b st2 (Res g R2 Z F2 Q) (fun x s => E x ρ s) → P (.bl b) H2) : tX g (RelD g) W m σ H P := by
  refine tX.go (k := fun d => bindM (asB d) k) N hm (fun d => mono_bind (mono_asB d) hk) q fun d v F st H1 e N r q => ?_
  obtain ⟨b, rfl, q⟩ := asB_inv q
  unfold RelD at r
  subst r
  exact next b F st H1 e N q
theorem fe_and {m n : Env → M Ex D} {rest : List Expr} (h : FE g X W e m) (k : FE g X W (.BoolOp .And (e1 :: rest) pos) n) : FE g X W (.BoolOp .And (e :: e1 :: rest) pos) (andE m n) :=
  ⟨PE.imp (pe_and h.pe k.pe) fun _ _ _ ⟨Z, F, st, ρ, E, N, q⟩ => tX.testGo N (h.mono ρ) (fun _ => mono_ite (k.mono ρ) (mono_pure _)) q fun b F st H1 e N q => ⟨b, rfl, by
    cases b with
    | true => exact ⟨Z, F, st, ρ, E, N, q⟩
    | false => exact tX.done N relD_bl q⟩, fun ρ => mono_bind (mono_liftT h.mono ρ) fun _ => mono_ite (k.mono ρ) (mono_pure _)⟩
theorem fe_or {m n : Env → M Ex D} {rest : List Expr} (h : FE g X W e m) (k : FE g X W (.BoolOp .Or (e1 :: rest) pos) n) : FE g X W (.BoolOp .Or (e :: e1 :: rest) pos) (orE m n) :=
  ⟨PE.imp (pe_or h.pe k.pe) fun _ _ _ ⟨Z, F, st, ρ, E, N, q⟩ => tX.testGo N (h.mono ρ) (fun _ => mono_ite (mono_pure _) (k.mono ρ)) q fun b F st H1 e N q => ⟨b, rfl, by
    cases b with
    | true => exact tX.done N relD_bl q
    | false => exact ⟨Z, F, st, ρ, E, N, q⟩⟩, fun ρ => mono_bind (mono_liftT h.mono ρ) fun _ => mono_ite (mono_pure _) (k.mono ρ)⟩
theorem fe_one {op} {m : Env → M Ex D} (h : FE g X W e m) : FE g X W (.BoolOp op [e] pos) m := ⟨pe_one h.pe, h.mono⟩
theorem fe_not {m : Env → M Ex D} (h : FE g X W e m) : FE g X W (.UnaryOp .Not e pos) (notE m) :=
  ⟨PE.imp (pe_not h.pe) fun _ _ _ ⟨Z, F, st, ρ, E, N, q⟩ => tX.testGo N (h.mono ρ) (fun _ => mono_pure _) q fun b F st H1 e N q => ⟨b, rfl, tX.done N relD_bl q⟩, fun ρ => mono_bind (mono_liftT h.mono ρ) fun _ => mono_pure _⟩
def iteE (c : Env → M Ex Bool) (m n : Env → M Ex D) : Env → M Ex D := fun ρ => bindM (c ρ) fun b => if b = true then m ρ else n ρ
theorem fe_ifExp {c : Env → M Ex Bool} {m n : Env → M Ex D} (h : FT g X W e c) (h1 : FE g X W e1 m) (h2 : FE g X W e2 n) : FE g X W (.IfExp e e1 e2 pos) (iteE c m n) :=
  ⟨PE.imp (pe_ifExp h.pt h1.pe h2.pe) fun _ _ _ ⟨Z, F, st, ρ, E, N, q⟩ => tX.go N (h.mono ρ) (fun _ => mono_ite (h1.mono ρ) (h2.mono ρ)) q fun d v F st H1 e N r q => by
    cases r
    cases d with
    | true => exact iteT ⟨Z, F, st, ρ, E, N, q⟩
    | false => exact iteF ⟨Z, F, st, ρ, E, N, q⟩, fun ρ => mono_bind (h.mono ρ) fun _ => mono_ite (h1.mono ρ) (h2.mono ρ)⟩
/-! ### arguments, displays -/
def argsN : Env → M Ex (List D) := fun _ => pureM []
def argsC (m : Env → M Ex D) (n : Env → M Ex (List D)) : Env → M Ex (List D) := fun ρ => bindM (m ρ) fun d => bindM (n ρ) fun ds => pureM (d :: ds)
theorem fa_nil : FA g X W [] argsN := ⟨PA.imp pa_nil fun σ H Q h => by
  obtain ⟨Z, F, st, ρ, E, N, h⟩ := h
  exact tX.done (R := RelDs g) (d := []) N .nil h, fun _ => mono_pure _⟩
theorem fa_cons {es : List Expr} {m : Env → M Ex D} {n : Env → M Ex (List D)} (h : FE g X W e m) (k : FA g X W es n) (hs : starEach (e :: es) X.env = (false, eval e X.env) :: starEach es X.env := by rfl) : FA g X W (e :: es) (argsC m n) :=
  ⟨PA.imp (pa_cons h.pe k.pa hs) fun _ _ _ ⟨Z, F, st, ρ, E, N, q⟩ => tX.go N (h.mono ρ) (fun _ => mono_bind (k.mono ρ) fun _ => mono_pure _) q fun d v F st H1 e N r q =>
    tX.go (R1 := RelDs g) N (k.mono ρ) (fun _ => mono_pure _) q fun ds vs F2 st2 H2 e2 N2 r2 q2 => tX.done (R := RelDs g) N2 (.cons (r.mono e2) r2) q2, fun ρ => mono_bind (h.mono ρ) fun _ => mono_bind (k.mono ρ) fun _ => mono_pure _⟩
end DL

/-! ### of what kind exceptions are: told that their context is None, or not -/
namespace DL
open PySem PySem.Spec PyProof.Rows L2
/-- true: the context of the exceptions that leave is None -/
class Kd where
  b : Bool
def ctxB : Bool → Program → World → CXT
  | true, P, w => L2N.CX P w
  | false, P, w => L2.CX P w
def zB : Bool → Value → Option Addr → Obj → Prop
  | true => L2N.Zn
  | false => Zc
def xeB (b : Bool) (X : Cx) (W : WX) (u : Value) (s' : Shared) : Prop :=
  ∃ (a : Addr) (B : Heap) (sI : Shared) (pins : List (Addr × Obj)) (σ : L2.St) (H : Hp) (cls : Value) (d : Option Addr),
    u = .ref a ∧ Inv X pins σ H sI ∧ (∀ b o, sI.heap.get? b = some o → b ∉ frs X.stack → B.get? b = some o) ∧ sI.heap.UpToSlots s'.heap ∧
      Sky B X.stack a (zB b cls d) X.env.locals s'.heap ∧ H a = none ∧ s'.os = sI.os ∧ AllBare s'.gens ∧ W cls d σ H
def takB (b : Bool) (X : Cx) (W : WX) : Prop := ∀ u s', xeB b X W u s' → X.xe u s'
abbrev XCX [k : Kd] (P : Program) (w : World) : CXT := ctxB k.b P w
abbrev Takes [k : Kd] (X : Cx) (W : WX) : Prop := takB k.b X W
theorem ctx_up {P : Program} {w : World} {outer : List PySem.Env} {H : Hp} {s : Shared} {E : XK} {u : Value} {s' : Shared} (h : L2N.CX P w outer H s E u s') : L2.CX P w outer H s E u s' := by
  obtain ⟨a, B, H', cls, d, ea, fl, r⟩ := h
  exact ⟨a, B, H', cls, d, ea, L2H.flyingZ_imp (fun _ z => z.zc) fl, r⟩
theorem ctxB_up : ∀ {b : Bool} {P : Program} {w : World} {outer : List PySem.Env} {H : Hp} {s : Shared} {E : XK} {u : Value} {s' : Shared}, L2N.CX P w outer H s E u s' → ctxB b P w outer H s E u s'
  | true, _, _, _, _, _, _, _, _, h => h
  | false, _, _, _, _, _, _, _, _, h => ctx_up h
theorem ctxB_no : ∀ {b : Bool} {P : Program} {w : World} {outer : List PySem.Env} {H : Hp} {s : Shared} {u : Value} {s' : Shared}, ctxB b P w outer H s (fun _ _ _ => False) u s' → False
  | true, _, _, _, _, _, _, _, ⟨_, _, _, _, _, _, _, _, _, _, _, _, e⟩ => e
  | false, _, _, _, _, _, _, _, ⟨_, _, _, _, _, _, _, _, _, _, _, _, e⟩ => e
theorem xe_up {X : Cx} {W : WX} {u : Value} {s' : Shared} (h : L2N.XE X W u s') : L2.XE X W u s' := by
  obtain ⟨a, B, sI, pins, σ, H, cls, d, e, I, nb, up, sky, r⟩ := h
  refine ⟨a, B, sI, pins, σ, H, cls, d, e, I, nb, up, ?_, r⟩
  rcases sky with ⟨s1, s2, s3, oe, vs, s4, s5, s6⟩ | fl | ⟨k1, k2, k3, k4⟩
  · exact .inl ⟨s1, s2, s3, oe, vs, s4, s5.zc, s6⟩
  · exact .inr (.inl (L2H.flyingZ_imp (fun _ z => z.zc) fl))
  · exact .inr (.inr ⟨k1, k2, k3, L2H.tracedZ_imp (fun _ z => z.zc) k4⟩)
theorem zB_steady : ∀ {b : Bool} {cls : Value} {d : Option Addr}, PXN.Steady1 (zB b cls d)
  | true, _, _ => L2N.Zn.steady
  | false, _, _ => fun o v h => Zc.steady o _ h
theorem takN : ∀ {b : Bool} {X : Cx} {W : WX}, takB b X W → L2N.Takes X W
  | true, _, _, t => t
  | false, _, _, t => fun u s' h => t u s' (xe_up h)
theorem zB_zc : ∀ {b : Bool} {cls : Value} {d : Option Addr} {o : Obj}, zB b cls d o → Zc cls d o
  | true, _, _, _, h => h.zc
  | false, _, _, _, h => h
theorem passB : ∀ {b : Bool} {X : Cx} {W : WX} (tk : takB b X W) (σ : L2.St), PassesAt (ctxB b X.prog X.w) X σ (WE W σ)
  | true, _, _, tk, σ => L2N.passAt tk σ
  | false, _, _, tk, σ => L2.passAt tk σ
theorem passAt [k : Kd] {X : Cx} {W : WX} (tk : Takes X W) (σ : L2.St) : PassesAt (XCX X.prog X.w) X σ (WE W σ) := passB tk σ
theorem takB_of : ∀ {b : Bool} {X : Cx} {E : XK} (hs : X.stack = X.env :: X.outer) (hf : X.env.frame = some X.env.locals) (hex : X.ex = []) {E₁ : Value → Shared → Prop}
    (hx : X.xe = fun e s' => wpAny (model X.prog X.w) X.A (leaving X.env e) (fun _ s'' => ctxB b X.prog X.w X.outer X.H_0 X.s_0 E e s'') E₁ s'), takB b X (fun cls d _ H => E cls d H)
  | true, _, _, hs, hf, hex, _, hx => L2N.takes_of hs hf hex hx
  | false, _, _, hs, hf, hex, _, hx => L2.takes_of hs hf hex hx
theorem takes_of [k : Kd] {X : Cx} {E : XK} (hs : X.stack = X.env :: X.outer) (hf : X.env.frame = some X.env.locals) (hex : X.ex = []) {E₁ : Value → Shared → Prop}
    (hx : X.xe = fun e s' => wpAny (model X.prog X.w) X.A (leaving X.env e) (fun _ s'' => XCX X.prog X.w X.outer X.H_0 X.s_0 E e s'') E₁ s') : Takes X (fun cls d _ H => E cls d H) := takB_of hs hf hex hx
theorem takB_no : ∀ {b : Bool} {X : Cx} {W : WX}, (∀ cls d σ H, ¬ W cls d σ H) → takB b X W
  | true, _, _, n => fun u s' ⟨a, B, sI, pins, σ, H, cls, d, e, I, nb, up, sky, na, os, ag, w⟩ => (n _ _ _ _ w).elim
  | false, _, _, n => fun u s' ⟨a, B, sI, pins, σ, H, cls, d, e, I, nb, up, sky, na, os, ag, w⟩ => (n _ _ _ _ w).elim
theorem takB_imp : ∀ {b : Bool} {X : Cx} {W W' : WX}, takB b X W → (∀ c d σ H, W' c d σ H → W c d σ H) → takB b X W'
  | true, _, _, _, t, h => L2N.Takes.imp t h
  | false, _, _, _, t, h => L2.Takes.imp t h
theorem cxUpN {P : Program} {w : World} : StX.CXUp (L2N.CX P w) := by
  rintro outer s H s2 H2 E e s' un kp ho ⟨a, B, H', cls, d, ea, fl, hok, ub, na, os, ag, he⟩
  refine ⟨a, B, H', cls, d, ea, fl, hok, ⟨fun b o q n hb => ub.keep b o (kp b o q) (un.free b o q n (by simp)) hb, fun b o q hb => ub.slot b o (kp b o q) hb, fun b o q n => ub.free b o (kp b o q) (un.free b o q n (by simp)),
    fun b o q hb => ub.there b o (kp b o q) hb, fun b xs q => ub.tups b xs (un.tups b xs q), fun b o xs q => ub.frzs b o xs (un.frzs b o xs q), fun b ps q => ?_⟩, na, os.trans ho, ag, he⟩
  obtain ⟨m1, e1⟩ := un.tbls b ps q
  obtain ⟨m2, e2⟩ := ub.tbls b _ e1
  exact ⟨m1 ++ m2, by rw [e2, Array.append_assoc]⟩
theorem cxUpB : ∀ {b : Bool} {P : Program} {w : World}, StX.CXUp (ctxB b P w)
  | true, _, _ => cxUpN
  | false, _, _ => StX.cxUp
theorem cxUp [k : Kd] {P : Program} {w : World} : StX.CXUp (XCX P w) := cxUpB
theorem raiseB : ∀ {b : Bool} {X : Cx} {W : WX} {e : Expr} {t : L2.St → Hp → XK → Prop} {pos : Pos}, X.calm = true → takB b X W → L2N.PMk X e t → PS X (.Raise (some e) none pos) (fun _ σ H => t σ H fun cls d H' => W cls d σ H')
  | true, _, _, _, _, _, hc, tk, he => L2N.ps_raise hc tk he
  | false, _, _, _, _, _, hc, tk, he => L2N.ps_raise hc (takN (b := false) tk) he
/-- a promise about exceptions without context serves for both -/
theorem crB {b : Bool} {P : Program} {w : World} {outer : List PySem.Env} {H : Hp} {s : Shared} {Q : VK} {E : XK} {r : Result} {s' : Shared} (h : CR (L2N.CX P w) outer P w H s Q E r s') : CR (ctxB b P w) outer P w H s Q E r s' := by
  cases r with
  | error e => exact ctxB_up h
  | ok f => cases f <;> exact h
end DL

/-! ### statements, loops, defs -/
namespace DL
open PySem L2
/-- how a statement ends -/
inductive Fl where
  | nx (ρ : Env) | rt (d : D) | bk (ρ : Env) | ct (ρ : Env)
abbrev MS := M (Ex × Env) Fl
variable {g : G} {Z F F' H H' : Hp} {W : WX} {σ : St} {ρ : Env} {st : S} {α β γ δ : Type} {X : Cx} {e e1 e2 e3 : Expr} {pos : Pos}
def up (ρ : Env) (m : M Ex α) : M (Ex × Env) α := fun s Q E => m s Q (fun x s' => E (x, ρ) s')
theorem up_pure (ρ : Env) (a : α) : up ρ (pureM a) = pureM a := rfl
theorem up_bind (ρ : Env) (m : M Ex α) (f : α → M Ex β) : up ρ (bindM m f) = bindM (up ρ m) fun a => up ρ (f a) := rfl
theorem up_raise (ρ : Env) (x : Ex) : (up ρ (raiseM x) : M (Ex × Env) α) = raiseM (x, ρ) := rfl
theorem up_fail (ρ : Env) : (up ρ failM : M (Ex × Env) α) = failM := rfl
theorem up_ite (ρ : Env) {c : Prop} [Decidable c] (m n : M Ex α) : up ρ (if c then m else n) = if c then up ρ m else up ρ n := by split <;> rfl
theorem mono_up {m : M Ex α} (h : Mono m) : Mono (up ρ m) := fun s _ _ _ _ hq he => h s _ _ _ _ hq fun _ _ => he _ _
def ResF (g : G) (Z F : Hp) (D : Ends) : Fl → S → Prop
  | .nx ρ', st' => ∀ σ' F' H', Same F F' → Sim g Z st' F' H' → REnv g F' σ' ρ' → D.nx σ' H'
  | .rt d, st' => ∀ v F' H', Same F F' → Sim g Z st' F' H' → RelD g F' d v → D.rt v H'
  | .bk ρ', st' => ∀ σ' F' H', Same F F' → Sim g Z st' F' H' → REnv g F' σ' ρ' → D.bk σ' H'
  | .ct ρ', st' => ∀ σ' F' H', Same F F' → Sim g Z st' F' H' → REnv g F' σ' ρ' → D.ct σ' H'
theorem ResF.mono {D : Ends} {f : Fl} {s : S} (e : Same F F') (h : ResF g Z F D f s) : ResF g Z F' D f s := by
  cases f with
  | nx _ => exact fun v F2 H2 s2 => h v F2 H2 (e.trans s2)
  | rt _ => exact fun v F2 H2 s2 => h v F2 H2 (e.trans s2)
  | bk _ => exact fun v F2 H2 s2 => h v F2 H2 (e.trans s2)
  | ct _ => exact fun v F2 H2 s2 => h v F2 H2 (e.trans s2)
abbrev Err (E : Ex → Env → S → Prop) : Ex × Env → S → Prop := fun x s => E x.1 x.2 s
def tS (g : G) (W : WX) (m : Env → MS) : TS := fun D σ H => ∃ Z F st ρ E, Now g W Z σ H F ρ st E ∧ m ρ st (ResF g Z F D) (Err E)
structure FS (g : G) (X : Cx) (W : WX) (s : Stmt) (m : Env → MS) : Prop where
  ps : PS X s (tS g W m)
  mono : ∀ ρ, Mono (m ρ)
structure FB (g : G) (X : Cx) (W : WX) (s : List Stmt) (m : Env → MS) : Prop where
  ps : PSs X s (tS g W m)
  mono : ∀ ρ, Mono (m ρ)
theorem tS.go {R1 : Hp → α → β → Prop} {n : Env → M Ex α} {k : α → MS} {D : Ends} {P : β → Hp → Prop} {E : Ex → Env → S → Prop} (N : Now g W Z σ H F ρ st E) (hn : Mono (n ρ)) (hk : ∀ a, Mono (k a))
    (q : bindM (up ρ (n ρ)) k st (ResF g Z F D) (Err E)) (next : ∀ d v F2 st2 H2, Same F F2 → Now g W Z σ H2 F2 ρ st2 E → R1 F2 d v → k d st2 (ResF g Z F2 D) (Err E) → P v H2) : tX g R1 W n σ H P := by
  refine ⟨Z, F, st, ρ, E, N, hn _ _ _ _ _ (fun d s hk1 v F' H' e sim r => ?_) (fun _ _ x => x) q⟩
  exact next d v F' s H' e ⟨sim, N.env.mono e, N.lk.mono e⟩ r (hk d _ _ _ _ _ (fun _ _ z => z.mono e) (fun _ _ x => x) hk1)
/-! ### blocks -/
def thenF (b : Env → MS) : Fl → MS
  | .nx ρ => b ρ
  | f => pureM f
theorem mono_thenF {b : Env → MS} (h : ∀ ρ, Mono (b ρ)) (f : Fl) : Mono (thenF b f) := by
  cases f with
  | nx ρ => exact h ρ
  | _ => exact mono_pure _
def seqS (a b : Env → MS) : Env → MS := fun ρ => bindM (a ρ) (thenF b)
def nilS : Env → MS := fun ρ => pureM (.nx ρ)
theorem fb_nil : FB g X W [] nilS := ⟨PSs.imp pss_nil fun D σ H ⟨Z, F, st, ρ, E, N, q⟩ => q σ F H (Same.refl _) N.sim N.env, fun _ => mono_pure _⟩
theorem fb_one {s : Stmt} {m : Env → MS} (h : FS g X W s m) : FB g X W [s] m := ⟨pss_one h.ps, h.mono⟩
theorem tS.seq {a b : Env → MS} {D : Ends} (ha : ∀ ρ, Mono (a ρ)) (hb : ∀ ρ, Mono (b ρ)) (h : tS g W (seqS a b) D σ H) : tS g W a { D with nx := tS g W b D } σ H := by
  obtain ⟨Z, F, st, ρ, E, N, q⟩ := h
  refine ⟨Z, F, st, ρ, E, N, ha ρ _ _ _ _ _ (fun f s k => ?_) (fun _ _ x => x) q⟩
  cases f with
  | nx ρ' => exact fun σ' F' H' e sim env => ⟨Z, F', s, ρ', E, ⟨sim, env, N.lk.mono e⟩, hb ρ' _ _ _ _ _ (fun _ _ z => z.mono e) (fun _ _ x => x) k⟩
  | rt d => exact k
  | bk _ => exact k
  | ct _ => exact k
theorem mono_seqS {a b : Env → MS} (ha : ∀ ρ, Mono (a ρ)) (hb : ∀ ρ, Mono (b ρ)) (ρ : Env) : Mono (seqS a b ρ) := mono_bind (ha ρ) (mono_thenF hb)
theorem fb_cons {s : Stmt} {r : List Stmt} {a b : Env → MS} (h : FS g X W s a) (k : FB g X W r b) : FB g X W (s :: r) (seqS a b) :=
  ⟨PSs.imp (pss_cons h.ps k.ps) fun _ _ _ q => tS.seq h.mono k.mono q, mono_seqS h.mono k.mono⟩
/-- a step of no code ahead of a statement -/
theorem fs_pre {s : Stmt} {a b : Env → MS} (hp : ∀ D σ H, tS g W a D σ H → D.nx σ H) (ha : ∀ ρ, Mono (a ρ)) (h : FS g X W s b) : FS g X W s (seqS a b) :=
  ⟨PS.imp h.ps fun D σ H q => hp _ _ _ (tS.seq ha h.mono q), mono_seqS ha h.mono⟩
/-! ### simple statements -/
def retS (m : Env → M Ex D) : Env → MS := fun ρ => bindM (up ρ (m ρ)) fun d => pureM (.rt d)
def retN : Env → MS := fun _ => pureM (.rt .non)
def exprS (m : Env → M Ex D) : Env → MS := fun ρ => bindM (up ρ (m ρ)) fun _ => pureM (.nx ρ)
def ifS (c : Env → M Ex Bool) (a b : Env → MS) : Env → MS := fun ρ => bindM (up ρ (c ρ)) fun k => if k = true then a ρ else b ρ
def setS (i : Nat) (m : Env → M Ex D) : Env → MS := fun ρ => bindM (up ρ (m ρ)) fun d => pureM (.nx (ρ.set i (some d)))
def bkS : Env → MS := fun ρ => pureM (.bk ρ)
def ctS : Env → MS := fun ρ => pureM (.ct ρ)
theorem fs_ret {m : Env → M Ex D} (h : FE g X W e m) : FS g X W (.Return (some e) pos) (retS m) :=
  ⟨PS.imp (ps_ret h.pe) fun D σ H ⟨Z, F, st, ρ, E, N, q⟩ => tS.go N (h.mono ρ) (fun _ => mono_pure _) q fun d v F st H1 e N r q => q v F H1 (Same.refl _) N.sim r,
   fun ρ => mono_bind (mono_up (h.mono ρ)) fun _ => mono_pure _⟩
theorem fs_retN : FS g X W (.Return none pos) retN := ⟨PS.imp ps_retN fun D σ H ⟨Z, F, st, ρ, E, N, q⟩ => q .non F H (Same.refl _) N.sim relD_non, fun _ => mono_pure _⟩
theorem fs_expr {m : Env → M Ex D} (h : FE g X W e m) (hs : swapsWith e none pos.line X.env = pure false := by rfl) : FS g X W (.Expr e pos) (exprS m) :=
  ⟨PS.imp (ps_expr h.pe hs) fun D σ H ⟨Z, F, st, ρ, E, N, q⟩ => tS.go N (h.mono ρ) (fun _ => mono_pure _) q fun d v F st H1 e N r q => q σ F H1 (Same.refl _) N.sim N.env,
   fun ρ => mono_bind (mono_up (h.mono ρ)) fun _ => mono_pure _⟩
theorem fs_if {c : Env → M Ex Bool} {a b : Env → MS} {sa sb : List Stmt} (h : FT g X W e c) (ha : FB g X W sa a) (hb : FB g X W sb b) : FS g X W (.If e sa sb pos) (ifS c a b) :=
  ⟨PS.imp (ps_if h.pt ha.ps hb.ps) fun D σ H ⟨Z, F, st, ρ, E, N, q⟩ => tS.go (R1 := RB) N (h.mono ρ) (fun _ => mono_ite (ha.mono ρ) (hb.mono ρ)) q fun d v F st H1 e N r q => by
    cases r
    cases d with
    | true => exact iteT ⟨Z, F, st, ρ, E, N, q⟩
    | false => exact iteF ⟨Z, F, st, ρ, E, N, q⟩,
   fun ρ => mono_bind (mono_up (h.mono ρ)) fun _ => mono_ite (ha.mono ρ) (hb.mono ρ)⟩
theorem fs_break : FS g X W (.Break pos) bkS := ⟨PS.imp ps_break fun D σ H ⟨Z, F, st, ρ, E, N, q⟩ => q σ F H (Same.refl _) N.sim N.env, fun _ => mono_pure _⟩
theorem fs_continue : FS g X W (.Continue pos) ctS := ⟨PS.imp ps_continue fun D σ H ⟨Z, F, st, ρ, E, N, q⟩ => q σ F H (Same.refl _) N.sim N.env, fun _ => mono_pure _⟩
theorem fs_pass : FS g X W (.Pass pos) nilS := ⟨PS.imp ps_pass fun D σ H ⟨Z, F, st, ρ, E, N, q⟩ => q σ F H (Same.refl _) N.sim N.env, fun _ => mono_pure _⟩
theorem fs_set {i : Nat} {x : Str} {m : Env → M Ex D} {pos' : Pos} (hN : X.N.Nodup) (hi : X.N[i]? = some x) (hx : Loc X.env.scope x) (h : FE g X W e m) (hs : swapsWith e (some (.Name x pos')) pos.line X.env = pure false := by rfl)
    (hf : X.fn x = true ∨ X.env.scope.names.lookup x = some .local := by first | exact .inl rfl | exact .inr rfl | assumption) : FS g X W (.Assign [.Name x pos'] e pos) (setS i m) :=
  ⟨PS.imp (ps_set hN hi hx h.pe hs hf) fun D σ H ⟨Z, F, st, ρ, E, N, q⟩ => tS.go N (h.mono ρ) (fun _ => mono_pure _) q fun d v F st H1 e N r q => q _ F H1 (Same.refl _) N.sim (N.env.set r),
   fun ρ => mono_bind (mono_up (h.mono ρ)) fun _ => mono_pure _⟩
/-! ### targets -/
def tG (g : G) (f : D → Env → Option Env) : TG := fun v σ H Q => ∃ Z F st d ρ ρ', Sim g Z st F H ∧ REnv g F σ ρ ∧ RelD g F d v ∧ f d ρ = some ρ' ∧ ∀ σ', REnv g F σ' ρ' → Q σ' H
def tGs (g : G) (f : List D → Env → Option Env) : TGs := fun v σ H Q => ∃ Z F st d ρ ρ', Sim g Z st F H ∧ REnv g F σ ρ ∧ RelDs g F d v ∧ f d ρ = some ρ' ∧ ∀ σ', REnv g F σ' ρ' → Q σ' H
def FG (g : G) (X : Cx) (tg : Expr) (f : D → Env → Option Env) : Prop := PG X tg (tG g f)
def FGs (g : G) (X : Cx) (tg : List Expr) (f : List D → Env → Option Env) : Prop := PGs X tg (tGs g f)
theorem PG.imp {t t' : TG} (h : PG X e t) (k : ∀ v σ H Q, t' v σ H Q → t v σ H Q) : PG X e t' := ⟨fun pins s σ H v u Q I r q => h.run pins s σ H v u Q I r (k _ _ _ _ q)⟩
theorem PGs.imp {es : List Expr} {t t' : TGs} (h : PGs X es t) (k : ∀ v σ H Q, t' v σ H Q → t v σ H Q) : PGs X es t' := by
  obtain ⟨r⟩ := h
  exact ⟨fun pins s σ H vs us Q I rr q => r pins s σ H vs us Q I rr (k _ _ _ _ q)⟩
def toName (i : Nat) : D → Env → Option Env := fun d ρ => some (ρ.set i (some d))
def toNil : List D → Env → Option Env := fun ds ρ => match ds with
  | [] => some ρ
  | _ => none
def toCons (f : D → Env → Option Env) (k : List D → Env → Option Env) : List D → Env → Option Env := fun ds ρ => match ds with
  | [] => none
  | d :: r => match f d ρ with
    | some ρ' => k r ρ'
    | none => none
def toTup (n : Nat) (f : List D → Env → Option Env) : D → Env → Option Env := fun d ρ => match d with
  | .tup ds => if ds.length = n then f ds ρ else none
  | _ => none
theorem fg_name {i : Nat} {x : Str} (hN : X.N.Nodup) (hi : X.N[i]? = some x) (hx : Loc X.env.scope x) (hf : X.fn x = true ∨ X.env.scope.names.lookup x = some .local := by first | exact .inl rfl | exact .inr rfl | assumption) : FG g X (.Name x pos) (toName i) :=
  PG.imp (pg_name hN hi hx hf) fun v σ H Q ⟨Z, F, st, d, ρ, ρ', sim, env, r, e, q⟩ => by
    cases (Option.some.inj e)
    exact q _ (env.set r)
theorem fgs_nil : FGs g X [] toNil := PGs.imp pgs_nil fun v σ H Q ⟨Z, F, st, d, ρ, ρ', sim, env, r, e, q⟩ => by
  cases d with
  | nil =>
    cases (Option.some.inj e)
    exact ⟨r.nil_inv, q _ env⟩
  | cons _ _ => cases e
theorem fgs_cons {es : List Expr} {f : D → Env → Option Env} {k : List D → Env → Option Env} (h1 : FG g X e f) (h2 : FGs g X es k) (hs : (assignEach (e :: es) X.env).map (·.2) = assign e X.env :: (assignEach es X.env).map (·.2) := by rfl) : FGs g X (e :: es) (toCons f k) :=
  PGs.imp (pgs_cons h1 h2 hs) fun vs σ H Q ⟨Z, F, st, ds, ρ, ρ', sim, env, r, eq, q⟩ => by
    cases ds with
    | nil => cases eq
    | cons d ds =>
      obtain ⟨v, vs', rfl, r1, r2⟩ := r.cons_inv
      cases hf : f d ρ with
      | none =>
        have : (match f d ρ with | some ρ' => k ds ρ' | none => none) = some ρ' := eq
        rw [hf] at this; cases this
      | some ρ1 =>
        have e2 : (match f d ρ with | some ρ' => k ds ρ' | none => none) = some ρ' := eq
        rw [hf] at e2
        exact ⟨v, vs', rfl, Z, F, st, d, ρ, ρ1, sim, env, r1, hf, fun σ1 env1 => ⟨Z, F, st, ds, ρ1, ρ', sim, env1, r2, e2, q⟩⟩
theorem fg_tup {es : List Expr} {k : Nat} {n : Nat} {f : List D → Env → Option Env} (hK : X.K = g.K) (hc : X.calm = true) (h : FGs g X es f) (hn : (assignEach es X.env).length = n := by rfl) (hst : (assignEach es X.env).findIdx? (·.1) = none := by rfl) : FG g X (.Tuple es k pos) (toTup n f) :=
  PG.imp (pg_tup hc h hn hst) fun v σ H Q ⟨Z, F, st, d, ρ, ρ', sim, env, r, eq, q⟩ => by
    cases d with
    | tup ds =>
      unfold RelD at r
      obtain ⟨a, vs, rfl, hs, hr⟩ := r
      have e2 : (if ds.length = n then f ds ρ else none) = some ρ' := eq
      by_cases hl : ds.length = n
      · rw [if_pos hl] at e2
        rw [hK]
        exact ⟨a, vs, rfl, sqT_mono sim.same hs, hr.len.trans hl, Z, F, st, ds, ρ, ρ', sim, env, hr, e2, q⟩
      · rw [if_neg hl] at e2; cases e2
    | _ => cases eq
/-- target = e -/
def asgS (f : D → Env → Option Env) (m : Env → M Ex D) : Env → MS := fun ρ => bindM (up ρ (m ρ)) fun d => match f d ρ with
  | some ρ' => pureM (.nx ρ')
  | none => failM
theorem fs_asg {tg : Expr} {f : D → Env → Option Env} {m : Env → M Ex D} (h : FE g X W e m) (hg : FG g X tg f) (hs : swapsWithSole [tg] e pos.line X.env = pure false := by rfl) (hw : swappedStores [tg] e X.env = pure none := by rfl) (h1 : (assignEach [tg] X.env).map (·.2) = [assign tg X.env] := by rfl) : FS g X W (.Assign [tg] e pos) (asgS f m) := by
  have mk : ∀ ρ d, Mono ((match f d ρ with | some ρ' => pureM (.nx ρ') | none => failM) : MS) := fun ρ d => by
    split
    · exact mono_pure _
    · exact mono_fail
  refine ⟨PS.imp (ps_asg h.pe hg hs hw h1) fun D σ H ⟨Z, F, st, ρ, E, N, q⟩ => tS.go N (h.mono ρ) (mk ρ) q fun d v F st H1 e N r q => ?_, fun ρ => mono_bind (mono_up (h.mono ρ)) (mk ρ)⟩
  cases hf : f d ρ with
  | none => rw [hf] at q; exact q.elim
  | some ρ' =>
    rw [hf] at q
    exact ⟨Z, F, st, d, ρ, ρ', N.sim, N.env, r, hf, fun σ' env' => q σ' F H1 (Same.refl _) N.sim env'⟩
/-! ### what is walked -/
structure WalkD (g : G) (Z : Hp) (J : It) (F : Hp) (items : List D) (P : S → Prop) : Prop where
  len : items.length ≤ sizeLine
  goes : ∀ F' H' st i, Same F F' → Sim g Z st F' H' → P st → i < items.length → J.go i H'
  stops : ∀ F' H' st, Same F F' → Sim g Z st F' H' → P st → J.stop items.length H'
  yields : ∀ F' H' st i v H'', Same F F' → Sim g Z st F' H' → P st → i < items.length → J.yld i H' v H'' → ∃ F'' d, Same F' F'' ∧ Sim g Z st F'' H'' ∧ items[i]? = some d ∧ RelD g F'' d v
/-- items and what must stand while they are walked -/
structure Src where
  items : List D
  P : S → Prop
def ResI (g : G) (Z F : Hp) (R : It → Hp → Prop) : Src → S → Prop := fun p st' => ∀ F' H' J, Same F F' → Sim g Z st' F' H' → (∀ Z', (∀ a o, Z a = some o → Z' a = some o) → WalkD g Z' J F' p.items p.P) → R J H'
def tI (g : G) (W : WX) (m : Env → M Ex Src) : TI := fun σ H R => ∃ Z F st ρ E, Now g W Z σ H F ρ st E ∧ m ρ st (ResI g Z F R) (fun x s => E x ρ s)
structure FI (g : G) (X : Cx) (W : WX) (tg it : Expr) (m : Env → M Ex Src) : Prop where
  pi : PI X tg it (tI g W m)
  mono : ∀ ρ, Mono (m ρ)
theorem PI.imp {tg : Expr} {t t' : TI} (h : PI X tg e t) (k : ∀ σ H Q, t' σ H Q → t σ H Q) : PI X tg e t' := ⟨fun pins s σ H Q I q => h.run pins s σ H Q I (k _ _ _ q)⟩
/-- behind a turn -/
def turnF (k : Env → MS) : Fl → MS
  | .nx ρ => k ρ
  | .ct ρ => k ρ
  | .bk ρ => pureM (.nx ρ)
  | .rt d => pureM (.rt d)
theorem mono_turnF {k : Env → MS} (h : ∀ ρ, Mono (k ρ)) (f : Fl) : Mono (turnF k f) := by
  cases f with
  | nx ρ => exact h ρ
  | ct ρ => exact h ρ
  | _ => exact mono_pure _
def loopS (P : S → Prop) (f : D → Env → Option Env) (b : Env → MS) : List D → Env → MS
  | [], ρ => fun s Q _ => P s ∧ Q (.nx ρ) s
  | d :: ds, ρ => fun s Q E => P s ∧ ∃ ρ1, f d ρ = some ρ1 ∧ bindM (b ρ1) (turnF (loopS P f b ds)) s Q E
theorem mono_loopS {P : S → Prop} {f : D → Env → Option Env} {b : Env → MS} (h : ∀ ρ, Mono (b ρ)) : ∀ (ds : List D) (ρ : Env), Mono (loopS P f b ds ρ)
  | [], ρ => fun s _ _ _ _ hq _ ⟨p, q⟩ => ⟨p, hq _ _ q⟩
  | d :: ds, ρ => fun s _ _ _ _ hq he ⟨p, ρ1, e, q⟩ => ⟨p, ρ1, e, mono_bind (h ρ1) (mono_turnF (mono_loopS h ds)) _ _ _ _ _ hq he q⟩
def forS (mi : Env → M Ex Src) (f : D → Env → Option Env) (b : Env → MS) : Env → MS := fun ρ => bindM (up ρ (mi ρ)) fun p => loopS p.P f b p.items ρ
theorem fs_for {tg : Expr} {body : List Stmt} {mi : Env → M Ex Src} {f : D → Env → Option Env} {b : Env → MS} (hp : PassesOwn (model X.prog X.w) X.A X.env X.xe) (hc : X.calm = true) (hi : FI g X W tg e mi) (hg : FG g X tg f) (hb : FB g X W body b)
    (hs : ∀ x, foldedSetIterable e X.env x = pure x := by intro _; rfl) : FS g X W (.For tg e body [] pos) (forS mi f b) := by
  refine ⟨PS.imp (ps_for hp hc hi.pi hg hb.ps hs) fun D σ H ⟨Z, F, st, ρ, E, N, q⟩ => ?_, fun ρ => mono_bind (mono_up (hi.mono ρ)) fun p => mono_loopS hb.mono _ _⟩
  refine ⟨Z, F, st, ρ, E, N, hi.mono ρ _ _ _ _ _ (fun p st2 q2 F2 H2 J e2 sim2 w => ?_) (fun _ _ x => x) q⟩
  have w := w Z fun _ _ h => h
  refine ⟨fun i m σ H => m = p.items.length - i ∧ i ≤ p.items.length ∧ ∃ F3 st3 ρ3, Same F2 F3 ∧ Now g W Z σ H F3 ρ3 st3 E ∧ loopS p.P f b (p.items.drop i) ρ3 st3 (ResF g Z F3 D) (Err E), ⟨_, rfl, Nat.zero_le _, F2, st2, ρ, Same.refl _, ⟨sim2, N.env.mono e2, N.lk.mono e2⟩, mono_loopS hb.mono _ _ _ _ _ _ _ (fun _ _ z => z.mono e2) (fun _ _ x => x) q2⟩, ?_⟩
  rintro i m σ1 H1 ⟨rfl, hi1, F3, st3, ρ3, e3, N3, q3⟩
  by_cases hlt : i < p.items.length
  · rw [List.drop_eq_getElem_cons hlt] at q3
    obtain ⟨pp, ρ4, hf, q3⟩ := q3
    refine .inr ⟨w.goes F3 H1 st3 i e3 N3.sim pp hlt, fun σ' H' => ∃ F5 st5 ρ5, Same F2 F5 ∧ Now g W Z σ' H' F5 ρ5 st5 E ∧ loopS p.P f b (p.items.drop (i + 1)) ρ5 st5 (ResF g Z F5 D) (Err E), fun σ' H' h => ⟨p.items.length - (i + 1), by omega, rfl, hlt, h⟩, fun x H' y => ?_⟩
    obtain ⟨F4, d, e4, sim4, hd, r⟩ := w.yields F3 H1 st3 i x H' e3 N3.sim pp hlt y
    have hd' : p.items[i] = d := by rw [List.getElem?_eq_getElem hlt] at hd; exact Option.some.inj hd
    rw [hd'] at hf
    refine ⟨Z, F4, st3, d, ρ3, ρ4, sim4, N3.env.mono e4, r, hf, fun σ2 env2 => ?_⟩
    refine ⟨Z, F4, st3, ρ4, E, ⟨sim4, env2, N3.lk.mono e4⟩, hb.mono ρ4 _ _ _ _ _ (fun fl s k => ?_) (fun _ _ x => x) q3⟩
    cases fl with
    | nx ρ5 => exact fun σ' F' H' e sim env => ⟨F', s, ρ5, (e3.trans e4).trans e, ⟨sim, env, N3.lk.mono (e4.trans e)⟩, mono_loopS hb.mono _ _ _ _ _ _ _ (fun _ _ z => z.mono (e4.trans e)) (fun _ _ x => x) k⟩
    | ct ρ5 => exact fun σ' F' H' e sim env => ⟨F', s, ρ5, (e3.trans e4).trans e, ⟨sim, env, N3.lk.mono (e4.trans e)⟩, mono_loopS hb.mono _ _ _ _ _ _ _ (fun _ _ z => z.mono (e4.trans e)) (fun _ _ x => x) k⟩
    | bk ρ5 => exact fun σ' F' H' e sim env => k σ' F' H' (e4.trans e) sim env
    | rt d => exact fun v F' H' e sim r => k v F' H' (e4.trans e) sim r
  · have ei : i = p.items.length := by omega
    subst ei
    rw [List.drop_length] at q3
    obtain ⟨pp, q3⟩ := q3
    exact .inl ⟨w.stops F3 H1 st3 e3 N3.sim pp, q3 σ1 F3 H1 (Same.refl _) N3.sim N3.env⟩
/-! ### while -/
def whileN (c : Env → M Ex Bool) (b : Env → MS) : Nat → Env → MS
  | 0, _ => failM
  | n + 1, ρ => bindM (up ρ (c ρ)) fun k => if k = true then bindM (b ρ) (turnF (whileN c b n)) else pureM (.nx ρ)
theorem mono_whileN {c : Env → M Ex Bool} {b : Env → MS} (hc : ∀ ρ, Mono (c ρ)) (hb : ∀ ρ, Mono (b ρ)) : ∀ (n : Nat) (ρ : Env), Mono (whileN c b n ρ)
  | 0, _ => mono_fail
  | n + 1, ρ => mono_bind (mono_up (hc ρ)) fun _ => mono_ite (mono_bind (hb ρ) (mono_turnF (mono_whileN hc hb n))) (mono_pure _)
def whileS (c : Env → M Ex Bool) (b : Env → MS) : Env → MS := fun ρ s Q E => ∃ n, whileN c b n ρ s Q E
theorem fs_while {body : List Stmt} {c : Env → M Ex Bool} {b : Env → MS} (hp : PassesOwn (model X.prog X.w) X.A X.env X.xe) (h : FT g X W e c) (hb : FB g X W body b) : FS g X W (.While e body [] pos) (whileS c b) := by
  refine ⟨PS.imp (ps_while hp h.pt hb.ps) fun D σ H ⟨Z, F, st, ρ, E, N, n, q⟩ => ?_, fun ρ s _ _ _ _ hq he ⟨n, q⟩ => ⟨n, mono_whileN h.mono hb.mono n ρ _ _ _ _ _ hq he q⟩⟩
  refine ⟨fun n σ H => ∃ F st ρ, Now g W Z σ H F ρ st E ∧ whileN c b n ρ st (ResF g Z F D) (Err E), ⟨n, F, st, ρ, N, q⟩, ?_⟩
  rintro m σ1 H1 ⟨F1, st1, ρ1, N1, q1⟩
  cases m with
  | zero => exact q1.elim
  | succ n =>
    refine tS.go (R1 := RB) N1 (h.mono ρ1) (fun _ => mono_ite (mono_bind (hb.mono ρ1) (mono_turnF (mono_whileN h.mono hb.mono n))) (mono_pure _)) q1 fun d v F st H1 e N r q => ?_
    cases r
    cases d with
    | true =>
      refine iteT ⟨fun σ' H' => ∃ F st ρ, Now g W Z σ' H' F ρ st E ∧ whileN c b n ρ st (ResF g Z F D) (Err E), fun σ' H' h => ⟨n, Nat.lt_succ_self n, h⟩, ?_⟩
      refine ⟨Z, F, st, ρ1, E, N, hb.mono ρ1 _ _ _ _ _ (fun fl s k => ?_) (fun _ _ x => x) q⟩
      cases fl with
      | nx ρ5 => exact fun σ' F' H' e sim env => ⟨F', s, ρ5, ⟨sim, env, N.lk.mono e⟩, mono_whileN h.mono hb.mono _ _ _ _ _ _ _ (fun _ _ z => z.mono e) (fun _ _ x => x) k⟩
      | ct ρ5 => exact fun σ' F' H' e sim env => ⟨F', s, ρ5, ⟨sim, env, N.lk.mono e⟩, mono_whileN h.mono hb.mono _ _ _ _ _ _ _ (fun _ _ z => z.mono e) (fun _ _ x => x) k⟩
      | bk ρ5 => exact k
      | rt d => exact k
    | false => exact iteF (q σ1 F H1 (Same.refl _) N.sim N.env)
/-! ### defs -/
/-- the promise of a mirror -/
def spD (g : G) (n : Nat) (m : List D → M Ex D) : Sp := fun vs H Q E => ∃ Z F st ds, vs.length = n ∧ Sim g Z st F H ∧ RelDs g F ds vs ∧ m ds st (Res g (RelD g) Z F Q) (fun x s => ∀ u d F' H', Same F F' → Sim g Z s F' H' → RelEx g F' u d x → E u d H')
def flD : Fl → M Ex D
  | .nx _ => pureM .non
  | .rt d => pureM d
  | _ => failM
/-- a body's mirror as a def's -/
def defM (n : Nat) (b : Env → MS) : List D → M Ex D := fun ds s Q E => b (ds.map some ++ List.replicate (n - ds.length) none) s (fun f s' => flD f s' Q E) (fun x s' => E x.1 s')
theorem renv_start {N : List Str} {vs : List V} {ds : List D} (h : RelDs g F ds vs) (n : Nat) (hn : N.length = n) : REnv g F (L2.start N vs) (ds.map some ++ List.replicate (n - ds.length) none) := by
  subst hn
  have hl := h.len
  refine ⟨by unfold L2.start; simp [hl], fun i d e => ?_⟩
  by_cases hi : i < ds.length
  · rw [List.getElem?_append_left (by simpa using hi)] at e
    unfold L2.start
    rw [List.getElem?_append_left (by simp; omega)]
    rw [List.getElem?_map] at e ⊢
    cases q : ds[i]? with
    | none => rw [q] at e; cases e
    | some x =>
      rw [q] at e
      simp at e
      subst e
      obtain ⟨v, h1, h2⟩ := h.get q
      exact ⟨v, by rw [h1]; rfl, h2⟩
  · rw [List.getElem?_append_right (by simpa using hi)] at e
    have := List.mem_of_getElem? e
    simp at this
theorem mono_flD (f : Fl) : Mono (flD f) := by cases f <;> first | exact mono_pure _ | exact mono_fail
theorem mono_defM {n : Nat} {b : Env → MS} (h : ∀ ρ, Mono (b ρ)) (ds : List D) : Mono (defM n b ds) := fun s _ _ _ _ hq he => h _ _ _ _ _ _ (fun f s' => mono_flD f s' _ _ _ _ hq he) fun _ _ => he _ _
theorem fn_okD [Kd] {P : Program} {w : World} {K : PySem.W.Frag} {mg : Str → Option Value} {base : Heap} {x qual : Str} {params : Arguments} {body : List Stmt} {scope : Scope} {dvs : List V} {kws : List (Str × V)} {f : Addr} {fd : FuncData} {N ps : List Str} {k n : Nat} {b : Env → MS}
    (Fu : FunD K x qual params body scope dvs kws f fd) (Sc : FnScope N ps scope) (hn : N.length = n)
    (hb : ∀ (cdv : Value) (A : Around) (outer : List PySem.Env) (s : Shared) (H : Hp) (E : XK), Room k (A.deeper (PyProof.Rows.envOfC qual scope s.heap.objs.size f cdv)) → Takes (cxOf (XCX P w) P w K mg base N qual scope f cdv A outer s H E) (fun u d _ H => E u d H) →
      FB g (cxOf (XCX P w) P w K mg base N qual scope f cdv A outer s H E) (fun u d _ H => E u d H) body b) : FnOk P w K mg base (XCX P w) (k + 1) f fd ps (spD g ps.length (defM n b)) := by
  refine Fu.ok Sc (fun vs H Q E ⟨Z, F, st, ds, hl, _⟩ => hl) fun cdv A outer s H vs Q E hr ⟨Z, F, st, ds, hl, sim, r, q⟩ => ⟨_, (hb cdv A outer s H E hr (takes_of rfl rfl rfl rfl)).ps, ?_⟩
  refine ⟨Z, F, st, _, fun x _ s => ∀ u d F' H', Same F F' → Sim g Z s F' H' → RelEx g F' u d x → E u d H', ⟨sim, renv_start r n hn, fun x ρ st' F' H' u d σ e sim' _ rx h => h u d F' H' e sim' rx⟩, ?_⟩
  refine (hb cdv A outer s H E hr (takes_of rfl rfl rfl rfl)).mono _ _ _ _ _ _ (fun fl s' h => ?_) (fun _ _ h => h) q
  cases fl with
  | nx ρ' => exact fun σ' F' H' e sim' _ => h .non F' H' e sim' relD_non
  | rt d => exact h
  | bk _ => exact h.elim
  | ct _ => exact h.elim
end DL

/-! ### operators -/
namespace DL
open PySem L2
variable {g : G} {Z F F' H H' : Hp} {W : WX} {σ : St} {ρ : Env} {st : S} {α β γ δ : Type} {X : Cx} {e e1 e2 e3 : Expr} {pos : Pos}
def obL : Option Ob → Option (List D)
  | some (.lst xs) => some xs
  | _ => none
/-- a list's or tuple's items -/
def seqD (st : S) : D → Option (List D)
  | .tup xs => some xs
  | .lst xs => some xs
  | .ref a => obL (st.map a)
  | _ => none
theorem Sim.seq {d : D} {v : V} {xs : List D} (s : Sim g Z st F H) (r : RelD g F d v) (h : seqD st d = some xs) : ∃ a vs, v = .ref a ∧ (SqL g.K H a vs ∨ SqT g.K H a vs) ∧ RelDs g F xs vs := by
  cases d with
  | tup ds =>
    cases (Option.some.inj h)
    unfold RelD at r
    obtain ⟨a, vs, rfl, h1, h2⟩ := r
    exact ⟨a, vs, rfl, .inr (sqT_mono s.same h1), h2⟩
  | lst ds =>
    cases (Option.some.inj h)
    unfold RelD at r
    obtain ⟨a, vs, rfl, h1, h2⟩ := r
    exact ⟨a, vs, rfl, .inl (SqL.of (s.same _ _ h1)), h2⟩
  | ref a =>
    unfold RelD at r
    subst r
    replace h : obL (st.map a) = some xs := h
    cases e : st.map a with
    | none => rw [e] at h; cases h
    | some o =>
      rw [e] at h
      cases o with
      | lst ds =>
        cases (Option.some.inj h)
        obtain ⟨_, vs, hv, hr⟩ := s.ob a _ e
        exact ⟨a, vs, rfl, .inl (SqL.of hv), hr⟩
      | _ => cases h
  | _ => cases h
abbrev P2 := D → D → S → Option D
def r2 (g : G) (p : P2) : R2 := fun x y H Q => ∃ Z F st dx dy d, Sim g Z st F H ∧ RelD g F dx x ∧ RelD g F dy y ∧ p dx dy st = some d ∧ Res g (RelD g) Z F Q d st
def OpD (g : G) (X : Cx) (f : Value → Value → Sem Value) (p : P2) : Prop := OpR X f (r2 g p)
theorem OpR.imp {f : Value → Value → Sem Value} {r r' : R2} (h : OpR X f r) (k : ∀ x y H Q, r' x y H Q → r x y H Q) : OpR X f r' := fun pins s σ H x y v u Q I rx ry q => h pins s σ H x y v u Q I rx ry (k _ _ _ _ q)
/-- one of several rules, by the data -/
theorem OpD.of {f : Value → Value → Sem Value} {p : P2} (h : ∀ dx dy (Z F : Hp) (st : S) d, p dx dy st = some d → ∃ r : R2, OpR X f r ∧ ∀ x y H Q, Sim g Z st F H → RelD g F dx x → RelD g F dy y → Res g (RelD g) Z F Q d st → r x y H Q) : OpD g X f p := fun pins s σ H x y v u Q I rx ry ⟨Z, F, st, dx, dy, d, sim, hx, hy, e, q⟩ => by
  obtain ⟨r, o, k⟩ := h dx dy Z F st d e
  exact o pins s σ H x y v u Q I rx ry (k x y H Q sim hx hy q)
def op2 (p : P2) (a b : Env → M Ex D) : Env → M Ex D := fun ρ => bindM (a ρ) fun x => bindM (b ρ) fun y => seeM (p x y)
theorem mono_op2 {p : P2} {a b : Env → M Ex D} (ha : ∀ ρ, Mono (a ρ)) (hb : ∀ ρ, Mono (b ρ)) (ρ : Env) : Mono (op2 p a b ρ) := mono_bind (ha ρ) fun _ => mono_bind (hb ρ) fun _ => mono_see _
/-- the two parts and the operator -/
theorem tX.op2 {p : P2} {a b : Env → M Ex D} {Q : VK} (ha : ∀ ρ, Mono (a ρ)) (hb : ∀ ρ, Mono (b ρ)) (h : tX g (RelD g) W (DL.op2 p a b) σ H Q) : tOp (r2 g p) (tX g (RelD g) W a) (tX g (RelD g) W b) σ H Q := by
  obtain ⟨Z, F, st, ρ, E, N, q⟩ := h
  refine tX.go N (ha ρ) (fun _ => mono_bind (hb ρ) fun _ => mono_see _) q fun dx x F st H1 e N rx q => ?_
  refine tX.go (R1 := RelD g) N (hb ρ) (fun _ => mono_see _) q fun dy y F2 st H2 e2 N ry q => ?_
  obtain ⟨d, ed, q⟩ := q
  exact ⟨Z, F2, st, dx, dy, d, N.sim, rx.mono e2, ry, ed, q⟩
theorem fe_op {op : Operator} {p : P2} {a b : Env → M Ex D} (ho : OpD g X (binaryOp op) p) (ha : FE g X W e1 a) (hb : FE g X W e2 b) : FE g X W (.BinOp e1 op e2 pos) (op2 p a b) :=
  ⟨PE.imp (pe_op ho ha.pe hb.pe) fun _ _ _ q => tX.op2 ha.mono hb.mono q, mono_op2 ha.mono hb.mono⟩
theorem fe_cmp {op : CmpOp} {p : P2} {a b : Env → M Ex D} (ho : OpD g X (compareOp op) p) (ha : FE g X W e1 a) (hb : FE g X W e2 b) (hm : behindInMarks op e2 = false) : FE g X W (.Compare e1 [op] [e2] pos) (op2 p a b) :=
  ⟨PE.imp (pe_cmpR ho ha.pe hb.pe hm) fun _ _ _ q => tX.op2 ha.mono hb.mono q, mono_op2 ha.mono hb.mono⟩
theorem ft_cmp {op : CmpOp} {p : P2} {a b : Env → M Ex D} (ho : OpD g X (compareOp op) p) (ha : FE g X W e1 a) (hb : FE g X W e2 b) (hm : behindInMarks op e2 = false) : FT g X W (.Compare e1 [op] [e2] pos) (liftT (op2 p a b)) :=
  ⟨PT.imp (pt_cmpR ho ha.pe hb.pe hm) fun _ _ _ q => tX.op2 ha.mono hb.mono (tX.test (mono_op2 ha.mono hb.mono) q), mono_liftT (mono_op2 ha.mono hb.mono)⟩
theorem fe_ix {p : P2} {a b : Env → M Ex D} (ho : IxR X (r2 g p)) (ha : FE g X W e1 a) (hb : FE g X W e2 b) (hs : PlainIx e2) : FE g X W (.Subscript e1 e2 pos) (op2 p a b) :=
  ⟨PE.imp (pe_ix ho ha.pe hb.pe hs) fun _ _ _ q => tX.op2 ha.mono hb.mono q, mono_op2 ha.mono hb.mono⟩
def chainE (p p' : P2) (a b c : Env → M Ex D) : Env → M Ex D := fun ρ => bindM (a ρ) fun x => bindM (b ρ) fun y => bindM (seeM (p x y)) fun z => bindM (asB z) fun k => if k = true then bindM (c ρ) fun w => seeM (p' y w) else pureM (.bl false)
theorem mono_chainE {p p' : P2} {a b c : Env → M Ex D} (ha : ∀ ρ, Mono (a ρ)) (hb : ∀ ρ, Mono (b ρ)) (hc : ∀ ρ, Mono (c ρ)) (ρ : Env) : Mono (chainE p p' a b c ρ) :=
  mono_bind (ha ρ) fun _ => mono_bind (hb ρ) fun _ => mono_bind (mono_see _) fun _ => mono_bind (mono_asB _) fun _ => mono_ite (mono_bind (hc ρ) fun _ => mono_see _) (mono_pure _)
theorem tX.chain {p p' : P2} {a b c : Env → M Ex D} {Q : VK} (ha : ∀ ρ, Mono (a ρ)) (hb : ∀ ρ, Mono (b ρ)) (hc : ∀ ρ, Mono (c ρ)) (h : tX g (RelD g) W (chainE p p' a b c) σ H Q) :
    tChain (r2 g p) (r2 g p') (tX g (RelD g) W a) (tX g (RelD g) W b) (tX g (RelD g) W c) σ H Q := by
  obtain ⟨Z, F, st, ρ, E, N, q⟩ := h
  have m1 : ∀ y z, Mono (bindM (asB z) fun k => if k = true then bindM (c ρ) fun w => seeM (p' y w) else pureM (.bl false)) := fun y z => mono_bind (mono_asB _) fun _ => mono_ite (mono_bind (hc ρ) fun _ => mono_see _) (mono_pure _)
  refine tX.go N (ha ρ) (fun _ => mono_bind (hb ρ) fun _ => mono_bind (mono_see _) (m1 _)) q fun dx x F st H1 e N rx q => ?_
  refine tX.go (R1 := RelD g) N (hb ρ) (fun _ => mono_bind (mono_see _) (m1 _)) q fun dy y F2 st H2 e2 N ry q => ?_
  obtain ⟨d, ed, q⟩ := q
  refine ⟨Z, F2, st, dx, dy, d, N.sim, rx.mono e2, ry, ed, fun v F3 H3 e3 sim r => ?_⟩
  obtain ⟨k, rfl, q⟩ := asB_inv q
  unfold RelD at r
  refine ⟨k, r, ?_⟩
  have N3 := N.step e3 sim
  cases k with
  | true =>
    refine iteT (tX.go (R1 := RelD g) N3 (hc ρ) (fun _ => mono_see _) (mono_bind (hc ρ) (fun _ => mono_see _) _ _ _ _ _ (fun _ _ z => z.mono e3) (fun _ _ x => x) q) fun dw w F4 st H4 e4 N ry2 q => ?_)
    obtain ⟨d, ed, q⟩ := q
    exact ⟨Z, F4, st, dy, dw, d, N.sim, (ry.mono e3).mono e4, ry2, ed, q⟩
  | false => exact iteF (q (.bl false) F3 H3 e3 sim relD_bl)
theorem ft_chain {op op' : CmpOp} {p p' : P2} {a b c : Env → M Ex D} (ho : OpD g X (compareOp op) p) (ho' : OpD g X (compareOp op') p') (ha : FE g X W e1 a) (hb : FE g X W e2 b) (hc : FE g X W e3 c)
    (hm : lastMarks [op, op'] [e2, e3] = false := by with_unfolding_all rfl) : FT g X W (.Compare e1 [op, op'] [e2, e3] pos) (liftT (chainE p p' a b c)) :=
  ⟨PT.imp (pt_chain ho ho' ha.pe hb.pe hc.pe hm) fun _ _ _ q => tX.chain ha.mono hb.mono hc.mono (tX.test (mono_chainE ha.mono hb.mono hc.mono) q), mono_liftT (mono_chainE ha.mono hb.mono hc.mono)⟩
theorem fe_chain {op op' : CmpOp} {p p' : P2} {a b c : Env → M Ex D} (ho : OpD g X (compareOp op) p) (ho' : OpD g X (compareOp op') p') (ha : FE g X W e1 a) (hb : FE g X W e2 b) (hc : FE g X W e3 c)
    (hm : lastMarks [op, op'] [e2, e3] = false := by with_unfolding_all rfl) : FE g X W (.Compare e1 [op, op'] [e2, e3] pos) (chainE p p' a b c) :=
  ⟨PE.imp (pe_chain ho ho' ha.pe hb.pe hc.pe hm) fun _ _ _ q => tX.chain ha.mono hb.mono hc.mono q, mono_chainE ha.mono hb.mono hc.mono⟩
/-! ### ints -/
def intD (c : Int → Int → Bool) (f : Int → Int → D) : P2 := fun x y _ => match x, y with
  | .int i, .int j => if c i j then some (f i j) else none
  | _, _ => none
theorem intD_inv {c : Int → Int → Bool} {f : Int → Int → D} {x y d : D} (h : intD c f x y st = some d) : ∃ i j, x = .int i ∧ y = .int j ∧ c i j = true ∧ d = f i j := by
  unfold intD at h
  split at h
  · rename_i i j
    cases q : c i j with
    | true => rw [q] at h; exact ⟨i, j, rfl, rfl, q, (Option.some.inj h).symm⟩
    | false => rw [q] at h; cases h
  · cases h
theorem opD_int {f : Value → Value → Sem Value} {c : Int → Int → Bool} {C : Int → Int → Prop} {k : Int → Int → V} {kd : Int → Int → D} (h : OpR X f (rI C k)) (hc : ∀ i j, c i j = true → C i j) (hk : ∀ F i j, RelD g F (kd i j) (k i j)) : OpD g X f (intD c kd) :=
  OpR.imp h fun x y H Q ⟨Z, F, st, dx, dy, d, sim, hx, hy, e, q⟩ => by
    obtain ⟨i, j, rfl, rfl, hcc, rfl⟩ := intD_inv e
    unfold RelD at hx hy
    exact ⟨i, j, hx, hy, hc i j hcc, q _ F H (Same.refl _) sim (hk F i j)⟩
theorem opD_int0 {f : Value → Value → Sem Value} {k : Int → Int → V} {kd : Int → Int → D} (h : OpR X f (rI0 k)) (hk : ∀ F i j, RelD g F (kd i j) (k i j)) : OpD g X f (intD (fun _ _ => true) kd) :=
  OpR.imp h fun x y H Q ⟨Z, F, st, dx, dy, d, sim, hx, hy, e, q⟩ => by
    obtain ⟨i, j, rfl, rfl, hcc, rfl⟩ := intD_inv e
    unfold RelD at hx hy
    exact ⟨i, j, hx, hy, q _ F H (Same.refl _) sim (hk F i j)⟩
def subD : P2 := intD (fun _ _ => true) fun i j => .int (i - j)
def mulD : P2 := intD (fun i j => decide (-(2 ^ 64) < i ∧ i < 2 ^ 64) || decide (-(2 ^ 64) < j ∧ j < 2 ^ 64)) fun i j => .int (i * j)
def modD : P2 := intD (fun _ j => decide (0 < j)) fun i j => .int (i % j)
def divD : P2 := intD (fun _ j => decide (0 < j) && decide (j.natAbs.log2 < 9000)) fun i j => .int (i / j)
def powD : P2 := intD (fun i j => decide (0 ≤ j ∧ j ≤ 1000000 ∧ i.natAbs < 2 ^ 64)) fun i j => .int (i ^ j.toNat)
def ltD : P2 := intD (fun _ _ => true) fun i j => .bl (decide (i < j))
def leD : P2 := intD (fun _ _ => true) fun i j => .bl (decide (i ≤ j))
def gtD : P2 := intD (fun _ _ => true) fun i j => .bl (decide (j < i))
def geD : P2 := intD (fun _ _ => true) fun i j => .bl (decide (j ≤ i))
theorem od_sub : OpD g X (binaryOp .Sub) subD := opD_int0 op_sub fun _ _ _ => relD_int
theorem od_mul : OpD g X (binaryOp .Mult) mulD := opD_int op_mul (fun i j h => by
  rw [Bool.or_eq_true, decide_eq_true_eq, decide_eq_true_eq] at h; exact h) fun _ _ _ => relD_int
theorem od_mod : OpD g X (binaryOp .Mod) modD := opD_int op_mod (fun i j h => of_decide_eq_true h) fun _ _ _ => relD_int
theorem od_div : OpD g X (binaryOp .FloorDiv) divD := opD_int op_fdivW (fun i j h => by rw [Bool.and_eq_true, decide_eq_true_eq, decide_eq_true_eq] at h; exact h) fun _ _ _ => relD_int
theorem od_pow : OpD g X (binaryOp .Pow) powD := opD_int op_pow (fun i j h => show 0 ≤ j ∧ j ≤ 1000000 ∧ i.natAbs < 2 ^ 64 from of_decide_eq_true h) fun _ _ _ => relD_int
theorem od_lt : OpD g X (compareOp .Lt) ltD := opD_int0 op_lt fun _ _ _ => relD_bl
theorem od_le : OpD g X (compareOp .LtE) leD := opD_int0 op_le fun _ _ _ => relD_bl
theorem od_gt : OpD g X (compareOp .Gt) gtD := opD_int0 op_gt fun _ _ _ => relD_bl
theorem od_ge : OpD g X (compareOp .GtE) geD := opD_int0 op_ge fun _ _ _ => relD_bl
/-! ### + -/
def addD : P2 := fun x y st => match x, y with
  | .int i, .int j => some (.int (i + j))
  | .str i, .str j => if i.length + j.length ≤ sizeLine then some (.str (i ++ j)) else none
  | .tup xs, .tup ys => if xs.length + ys.length ≤ sizeLine then some (.tup (xs ++ ys)) else none
  | _, _ => none
theorem od_add (hK : X.K = g.K) : OpD g X (binaryOp .Add) addD := OpD.of fun dx dy Z F st d e => by
  unfold addD at e
  split at e
  · cases e
    exact ⟨_, op_add, fun x y H Q sim hx hy q => by unfold RelD at hx hy; exact ⟨_, _, hx, hy, q _ F H (Same.refl _) sim relD_int⟩⟩
  · rename_i i j
    by_cases hl : i.length + j.length ≤ sizeLine
    · rw [if_pos hl] at e; cases e
      exact ⟨_, op_add_str, fun x y H Q sim hx hy q => by unfold RelD at hx hy; exact ⟨_, _, hx, hy, hl, q _ F H (Same.refl _) sim relD_str⟩⟩
    · rw [if_neg hl] at e; cases e
  · rename_i xs ys
    by_cases hl : xs.length + ys.length ≤ sizeLine
    · rw [if_pos hl] at e; cases e
      refine ⟨_, op_catA, fun x y H Q sim hx hy q => ?_⟩
      unfold RelD at hx hy
      obtain ⟨a, vs, rfl, h1, r1⟩ := hx
      obtain ⟨b, us, rfl, h2, r2⟩ := hy
      rw [hK]
      refine ⟨a, b, vs, us, rfl, rfl, sqT_mono sim.same h1, sqT_mono sim.same h2, by rw [r1.len, r2.len]; exact hl, fun h0 => ?_, fun h0 h3 => ?_, fun h0 h3 p np => ?_⟩
      · subst h0
        have e0 : xs = [] := by
          have := r1.len
          cases xs with
          | nil => rfl
          | cons _ _ => simp at this
        subst e0
        exact q _ F H (Same.refl _) sim (by unfold RelD; exact ⟨b, us, rfl, h2, r2⟩)
      · subst h3
        have e0 : ys = [] := by
          have := r2.len
          cases ys with
          | nil => rfl
          | cons _ _ => simp at this
        subst e0
        rw [List.append_nil] at q
        exact q _ F H (Same.refl _) sim (by unfold RelD; exact ⟨a, vs, rfl, h1, r1⟩)
      · have s := same_upd (o := .tup (vs ++ us)) (sim.free np).1
        exact q _ _ _ s (sim.new np) (by unfold RelD; exact ⟨p, vs ++ us, rfl, SqT.of upd_same, (r1.append r2).mono s⟩)
    · rw [if_neg hl] at e; cases e
  · cases e
end DL

/-! ### comparisons, items, fields, builtins -/
namespace DL
open PySem L2
variable {g : G} {Z F F' H H' : Hp} {W : WX} {σ : St} {ρ : Env} {st : S} {α β γ δ : Type} {X : Cx} {e e1 e2 e3 : Expr} {pos : Pos}
/-! ### data as the library has it -/
mutual
def toPy : D → Option PyData
  | .non => some .none
  | .bl b => some (.bool b)
  | .int i => some (.int i)
  | .str z => some (.str z)
  | .tup xs => (toPys xs).map .tuple
  | .lst xs => (toPys xs).map .list
  | _ => none
def toPys : List D → Option (List PyData)
  | [] => some []
  | x :: xs => (toPy x).bind fun p => (toPys xs).map fun ps => p :: ps
end
mutual
theorem relD_dp (s : Same F H) : ∀ {d : D} {v : V} {p : PyData}, toPy d = some p → RelD g F d v → Dp g.K H v p
  | .non, _, _, e, r => by unfold toPy at e; unfold RelD at r; cases e; subst r; exact .non
  | .bl b, _, _, e, r => by unfold toPy at e; unfold RelD at r; cases e; subst r; exact .bl b
  | .int i, _, _, e, r => by unfold toPy at e; unfold RelD at r; cases e; subst r; exact .int i
  | .str z, _, _, e, r => by unfold toPy at e; unfold RelD at r; cases e; subst r; exact .str z
  | .tup xs, _, _, e, r => by
    unfold toPy at e; unfold RelD at r
    obtain ⟨ps, h1, rfl⟩ := Option.map_eq_some_iff.mp e
    obtain ⟨a, vs, rfl, h2, h3⟩ := r
    exact .tup (sqT_mono s h2) (relDs_dp s h1 h3)
  | .lst xs, _, _, e, r => by
    unfold toPy at e; unfold RelD at r
    obtain ⟨ps, h1, rfl⟩ := Option.map_eq_some_iff.mp e
    obtain ⟨a, vs, rfl, h2, h3⟩ := r
    exact .lst (SqL.of (s _ _ h2)) (relDs_dp s h1 h3)
  | .dic _ _, _, _, e, _ => by unfold toPy at e; cases e
  | .ins _ _ _, _, _, e, _ => by unfold toPy at e; cases e
  | .ref _, _, _, e, _ => by unfold toPy at e; cases e
  | .cls _, _, _, e, _ => by unfold toPy at e; cases e
  | .cst _, _, _, e, _ => by unfold toPy at e; cases e
  | .ty _, _, _, e, _ => by unfold toPy at e; cases e
  | .scr, _, _, e, _ => by unfold toPy at e; cases e
theorem relDs_dp (s : Same F H) : ∀ {ds : List D} {vs : List V} {ps : List PyData}, toPys ds = some ps → RelDs g F ds vs → DpAll g.K H vs ps
  | [], _, _, e, r => by unfold toPys at e; cases e; rw [r.nil_inv]; exact .nil
  | d :: ds, _, _, e, r => by
    unfold toPys at e
    obtain ⟨p, h1, e⟩ := Option.bind_eq_some_iff.mp e
    obtain ⟨ps, h2, rfl⟩ := Option.map_eq_some_iff.mp e
    obtain ⟨v, vs, rfl, r1, r2⟩ := r.cons_inv
    exact .cons (relD_dp s h1 r1) (relDs_dp s h2 r2)
end
theorem Sim.lst {a : Addr} {xs : List D} (s : Sim g Z st F H) (k : obL (st.map a) = some xs) : ∃ vs, H a = some (.lst vs) ∧ RelDs g F xs vs := by
  cases m : st.map a with
  | none => rw [m] at k; cases k
  | some o =>
    rw [m] at k
    cases o with
    | lst ds =>
      cases (Option.some.inj k)
      obtain ⟨_, us, hv, hr⟩ := s.ob a _ m
      exact ⟨us, hv, hr⟩
    | _ => cases k
/-- a place's list as a datum -/
def viewD (st : S) : D → D
  | .ref a => match obL (st.map a) with
    | some xs => .lst xs
    | none => .ref a
  | d => d
theorem Sim.view_dp {d : D} {v : V} {p : PyData} (s : Sim g Z st F H) (r : RelD g F d v) (e : toPy (viewD st d) = some p) : Dp g.K H v p := by
  cases d with
  | ref a =>
    cases k : obL (st.map a) with
    | none =>
      have : viewD st (.ref a) = .ref a := by show (match obL (st.map a) with | some xs => D.lst xs | none => .ref a) = _; rw [k]
      rw [this] at e
      exact relD_dp s.same e r
    | some xs =>
      have : viewD st (.ref a) = .lst xs := by show (match obL (st.map a) with | some xs => D.lst xs | none => .ref a) = _; rw [k]
      rw [this] at e
      unfold toPy at e
      obtain ⟨ps, h1, rfl⟩ := Option.map_eq_some_iff.mp e
      unfold RelD at r
      subst r
      obtain ⟨vs, hv, h3⟩ := s.lst k
      have hl : SqL g.K H a vs := SqL.of hv
      exact .lst hl (relDs_dp s.same h1 h3)
  | _ => exact relD_dp s.same e r
/-! ### == and != -/
def scalV : D → Option V
  | .non => some .non
  | .bl b => some (.bl b)
  | .int i => some (.int i)
  | .str z => some (.str z)
  | _ => none
theorem scalV_rel {d : D} {v u : V} (e : scalV d = some u) (r : RelD g F d v) : v = u := by
  cases d <;> first | (cases e; done) | (cases (Option.some.inj e); unfold RelD at r; exact r)
def eqS (x y : D) : Option Bool := match scalV x, scalV y with
  | some a, some b => if scal a b = true then some (decide (a = b)) else none
  | _, _ => none
def eqP (st : S) (x y : D) : Option Bool := match toPy (viewD st x), toPy (viewD st y) with
  | some p, some q => if SeqAt.shaped p = true ∧ SeqAt.shaped q = true then some (PyData.eqv p q) else none
  | _, _ => none
def eqB (st : S) (x y : D) : Option Bool := match eqS x y with
  | some b => some b
  | none => eqP st x y
theorem eqS_inv {x y : D} {b : Bool} (h : eqS x y = some b) : ∃ u v, scalV x = some u ∧ scalV y = some v ∧ scal u v = true ∧ b = decide (u = v) := by
  unfold eqS at h
  split at h
  · rename_i u v hu hv
    split at h
    · rename_i hs
      cases h
      exact ⟨u, v, hu, hv, hs, rfl⟩
    · cases h
  · cases h
theorem eqP_inv {x y : D} {b : Bool} (h : eqP st x y = some b) : ∃ p q, toPy (viewD st x) = some p ∧ toPy (viewD st y) = some q ∧ SeqAt.shaped p = true ∧ SeqAt.shaped q = true ∧ b = PyData.eqv p q := by
  unfold eqP at h
  split at h
  · rename_i u v hu hv
    split at h
    · rename_i hs
      cases h
      exact ⟨u, v, hu, hv, hs.1, hs.2, rfl⟩
    · cases h
  · cases h
def eqD : P2 := fun x y st => (eqB st x y).map .bl
def neD : P2 := fun x y st => (eqB st x y).map fun b => .bl (!b)
theorem od_eq (hK : X.K = g.K) (hu : X.A.units + 64 < cLine) : OpD g X (compareOp .Eq) eqD := OpD.of fun dx dy Z F st d e => by
  obtain ⟨b, hb, rfl⟩ := Option.map_eq_some_iff.mp e
  unfold eqB at hb
  split at hb
  · rename_i c hc
    cases hb
    obtain ⟨u, v, h1, h2, h3, rfl⟩ := eqS_inv hc
    exact ⟨_, op_eq, fun x y H Q sim hx hy q => by
      rw [scalV_rel h1 hx, scalV_rel h2 hy]
      exact ⟨h3, q _ F H (Same.refl _) sim relD_bl⟩⟩
  · obtain ⟨p, q', h1, h2, h3, h4, rfl⟩ := eqP_inv hb
    exact ⟨_, op_eqD hu, fun x y H Q sim hx hy q => by
      rw [hK]
      exact ⟨p, q', sim.view_dp hx h1, sim.view_dp hy h2, h3, h4, q _ F H (Same.refl _) sim relD_bl⟩⟩
theorem od_ne (hK : X.K = g.K) (hu : X.A.units + 64 < cLine) : OpD g X (compareOp .NotEq) neD := OpD.of fun dx dy Z F st d e => by
  obtain ⟨b, hb, rfl⟩ := Option.map_eq_some_iff.mp e
  unfold eqB at hb
  split at hb
  · rename_i c hc
    cases hb
    obtain ⟨u, v, h1, h2, h3, rfl⟩ := eqS_inv hc
    exact ⟨_, op_ne, fun x y H Q sim hx hy q => by
      rw [scalV_rel h1 hx, scalV_rel h2 hy]
      exact ⟨h3, q _ F H (Same.refl _) sim relD_bl⟩⟩
  · obtain ⟨p, q', h1, h2, h3, h4, rfl⟩ := eqP_inv hb
    exact ⟨_, op_neD hu, fun x y H Q sim hx hy q => by
      rw [hK]
      exact ⟨p, q', sim.view_dp hx h1, sim.view_dp hy h2, h3, h4, q _ F H (Same.refl _) sim relD_bl⟩⟩
/-! ### is None -/
def isNon : D → Bool
  | .non => true
  | _ => false
theorem relD_non_iff {d : D} {v : V} (r : RelD g F d v) : decide (v = .non) = isNon d := by
  cases d <;> unfold RelD at r <;> first
    | (subst r; rfl)
    | (obtain ⟨_, _, rfl, _⟩ := r; rfl)
    | (obtain ⟨_, _, _, rfl, _⟩ := r; rfl)
def isD : P2 := fun x y _ => match y with
  | .non => some (.bl (isNon x))
  | _ => none
def isntD : P2 := fun x y _ => match y with
  | .non => some (.bl (!isNon x))
  | _ => none
theorem od_is : OpD g X (compareOp .Is) isD := OpR.imp op_isN fun x y H Q ⟨Z, F, st, dx, dy, d, sim, hx, hy, e, q⟩ => by
  cases dy with
  | non =>
    cases (Option.some.inj e)
    unfold RelD at hy
    refine ⟨hy, ?_⟩
    rw [relD_non_iff hx]
    exact q _ F H (Same.refl _) sim relD_bl
  | _ => cases e
theorem od_isnt : OpD g X (compareOp .IsNot) isntD := OpR.imp op_notN fun x y H Q ⟨Z, F, st, dx, dy, d, sim, hx, hy, e, q⟩ => by
  cases dy with
  | non =>
    cases (Option.some.inj e)
    unfold RelD at hy
    refine ⟨hy, ?_⟩
    rw [relD_non_iff hx]
    exact q _ F H (Same.refl _) sim relD_bl
  | _ => cases e
/-! ### in -/
def scalsV : List D → Option (List V)
  | [] => some []
  | d :: ds => (scalV d).bind fun v => (scalsV ds).map fun vs => v :: vs
theorem scalsV_rel : ∀ {ds : List D} {vs us : List V}, scalsV ds = some us → RelDs g F ds vs → vs = us
  | [], _, _, e, r => by cases e; exact r.nil_inv
  | d :: ds, _, _, e, r => by
    obtain ⟨v, h1, e⟩ := Option.bind_eq_some_iff.mp e
    obtain ⟨vs, h2, rfl⟩ := Option.map_eq_some_iff.mp e
    obtain ⟨w, ws, rfl, r1, r2⟩ := r.cons_inv
    rw [scalV_rel h1 r1, scalsV_rel h2 r2]
theorem scalV_flat {d : D} {v : V} (e : scalV d = some v) : flatV v = true := by
  cases d <;> first | (cases e; done) | (cases (Option.some.inj e); rfl)
theorem scalsV_flat : ∀ {ds : List D} {us : List V}, scalsV ds = some us → us.all flatV = true
  | [], _, e => by cases e; rfl
  | d :: ds, _, e => by
    obtain ⟨v, h1, e⟩ := Option.bind_eq_some_iff.mp e
    obtain ⟨vs, h2, rfl⟩ := Option.map_eq_some_iff.mp e
    rw [List.all_cons, scalV_flat h1, scalsV_flat h2]; rfl
/-- a sign in a text; a scalar among scalars -/
def inB (st : S) (x y : D) : Option Bool := match x, y with
  | .str s, .str z => match s.cps.toList with
    | [c] => some (decide (c ∈ z.cps.toList))
    | _ => none
  | x, y => (scalV x).bind fun v => (seqD st y).bind fun ds => (scalsV ds).map fun vs => inV v vs
theorem inB_inv {x y : D} {b : Bool} (h : inB st x y = some b) : (∃ s z c, x = .str s ∧ y = .str z ∧ s = ⟨#[c]⟩ ∧ b = decide (c ∈ z.cps.toList)) ∨ ∃ v ds vs, scalV x = some v ∧ seqD st y = some ds ∧ scalsV ds = some vs ∧ b = inV v vs := by
  unfold inB at h
  split at h
  · rename_i s z
    split at h
    · rename_i c hc
      cases h
      refine .inl ⟨s, z, c, rfl, rfl, ?_, rfl⟩
      obtain ⟨a⟩ := s
      obtain ⟨l⟩ := a
      simp at hc
      subst hc
      rfl
    · cases h
  · obtain ⟨v, h1, h⟩ := Option.bind_eq_some_iff.mp h
    obtain ⟨ds, h2, h⟩ := Option.bind_eq_some_iff.mp h
    obtain ⟨vs, h3, rfl⟩ := Option.map_eq_some_iff.mp h
    exact .inr ⟨v, ds, vs, h1, h2, h3, rfl⟩
def inD : P2 := fun x y st => (inB st x y).map .bl
def notInD : P2 := fun x y st => (inB st x y).map fun b => .bl (!b)
theorem od_in (hK : X.K = g.K) : OpD g X (compareOp .In) inD := OpD.of fun dx dy Z F st d e => by
  obtain ⟨b, hb, rfl⟩ := Option.map_eq_some_iff.mp e
  rcases inB_inv hb with ⟨s, z, c, rfl, rfl, rfl, rfl⟩ | ⟨v, ds, vs, h1, h2, h3, rfl⟩
  · exact ⟨_, op_in_sign, fun x y H Q sim hx hy q => by unfold RelD at hx hy; exact ⟨c, z, hx, hy, q _ F H (Same.refl _) sim relD_bl⟩⟩
  · refine ⟨_, op_in_seq, fun x y H Q sim hx hy q => ?_⟩
    obtain ⟨a, us, rfl, hs, hr⟩ := sim.seq hy h2
    rw [scalV_rel h1 hx]
    obtain rfl := scalsV_rel h3 hr
    rw [hK]
    exact ⟨a, us, rfl, hs, scalV_flat h1, scalsV_flat h3, q _ F H (Same.refl _) sim relD_bl⟩
theorem od_notIn (hK : X.K = g.K) : OpD g X (compareOp .NotIn) notInD := OpD.of fun dx dy Z F st d e => by
  obtain ⟨b, hb, rfl⟩ := Option.map_eq_some_iff.mp e
  rcases inB_inv hb with ⟨s, z, c, rfl, rfl, rfl, rfl⟩ | ⟨v, ds, vs, h1, h2, h3, rfl⟩
  · exact ⟨_, op_notIn_sign, fun x y H Q sim hx hy q => by unfold RelD at hx hy; exact ⟨c, z, hx, hy, q _ F H (Same.refl _) sim relD_bl⟩⟩
  · refine ⟨_, op_notIn_seq, fun x y H Q sim hx hy q => ?_⟩
    obtain ⟨a, us, rfl, hs, hr⟩ := sim.seq hy h2
    rw [scalV_rel h1 hx]
    obtain rfl := scalsV_rel h3 hr
    rw [hK]
    exact ⟨a, us, rfl, hs, scalV_flat h1, scalsV_flat h3, q _ F H (Same.refl _) sim relD_bl⟩
/-! ### items -/
theorem RelDs.atI {ds : List D} {vs : List V} {i : Int} {d : D} (r : RelDs g F ds vs) (h : L2.atI ds i = some d) : ∃ v, L2.atI vs i = some v ∧ RelD g F d v := by
  unfold L2.atI at h ⊢
  rw [r.len]
  obtain ⟨j, h1, h2⟩ := Option.bind_eq_some_iff.mp h
  obtain ⟨v, h3, h4⟩ := r.get h2
  exact ⟨v, by rw [h1]; exact h3, h4⟩
def ixD : P2 := fun x y st => match x, y with
  | .str z, .int i => if z.length ≤ sizeLine then (atI z.cps.toList i).map fun c => .str ⟨#[c]⟩ else none
  | x, .int i => (seqD st x).bind fun ds => atI ds i
  | _, _ => none
theorem ixr_ix (hK : X.K = g.K) : IxR X (r2 g ixD) := by
  intro value slice pins s σ H x y v u Q I rx ry ⟨Z, F, st, dx, dy, d, sim, hx, hy, e, q⟩ hs
  refine ix_seq value slice pins s σ H x y v u Q I rx ry ?_ hs
  rw [hK]
  unfold ixD at e
  split at e
  · rename_i z i
    unfold RelD at hx hy
    split at e
    · rename_i hl
      obtain ⟨c, hc, rfl⟩ := Option.map_eq_some_iff.mp e
      exact .inr (.inr ⟨z, i, c, hx, hy, hl, hc, q _ F H (Same.refl _) sim relD_str⟩)
    · cases e
  · rename_i i _
    obtain ⟨ds, h1, h2⟩ := Option.bind_eq_some_iff.mp e
    obtain ⟨a, vs, rfl, hs, hr⟩ := sim.seq hx h1
    obtain ⟨w, h3, h4⟩ := hr.atI h2
    unfold RelD at hy
    rcases hs with hs | hs
    · exact .inl ⟨a, vs, i, w, rfl, hy, hs, h3, q _ F H (Same.refl _) sim h4⟩
    · exact .inr (.inl ⟨a, vs, i, w, rfl, hy, hs, h3, q _ F H (Same.refl _) sim h4⟩)
  · cases e
/-! ### slices -/
structure FO (g : G) (X : Cx) (W : WX) (e : Option Expr) (m : Env → M Ex (Option Int)) : Prop where
  po : PO X e (tX g (fun _ a b => a = b) W m)
  mono : ∀ ρ, Mono (m ρ)
theorem PO.imp {e : Option Expr} {t t' : TO} (h : PO X e t) (k : ∀ σ H Q, t' σ H Q → t σ H Q) : PO X e t' := ⟨fun pins s σ H Q I q => h.run pins s σ H Q I (k _ _ _ q)⟩
def asI : D → M Ex Int
  | .int i => pureM i
  | _ => failM
theorem mono_asI (d : D) : Mono (asI d) := by cases d <;> first | exact mono_pure _ | exact mono_fail
theorem asI_inv {d : D} {Q : Int → S → Prop} {E : Ex → S → Prop} (h : asI d st Q E) : ∃ b, d = .int b ∧ Q b st := by
  cases d with
  | int b => exact ⟨b, rfl, h⟩
  | _ => exact h.elim
def partN : Env → M Ex (Option Int) := fun _ => pureM none
def partS (m : Env → M Ex D) : Env → M Ex (Option Int) := fun ρ => bindM (m ρ) fun d => bindM (asI d) fun i => pureM (some i)
theorem fo_none : FO g X W none partN := ⟨PO.imp po_none fun σ H Q ⟨Z, F, st, ρ, E, N, q⟩ => tX.done (R := fun _ a b => a = b) N rfl q, fun _ => mono_pure _⟩
theorem fo_some {m : Env → M Ex D} (h : FE g X W e m) : FO g X W (some e) (partS m) :=
  ⟨PO.imp (po_some h.pe) fun σ H Q ⟨Z, F, st, ρ, E, N, q⟩ => tX.go N (h.mono ρ) (fun _ => mono_bind (mono_asI _) fun _ => mono_pure _) q fun d v F st H1 e N r q => by
    obtain ⟨i, rfl, q⟩ := asI_inv q
    unfold RelD at r
    exact ⟨i, r, tX.done (R := fun _ a b => a = b) N rfl q⟩, fun ρ => mono_bind (h.mono ρ) fun _ => mono_bind (mono_asI _) fun _ => mono_pure _⟩
def cutD (xs : List D) (lo hi : Option Int) : List D := (xs.drop (HT.sIx xs.length 0 lo)).take (HT.sIx xs.length xs.length hi - HT.sIx xs.length 0 lo)
theorem RelDs.cut {ds : List D} {vs : List V} (r : RelDs g F ds vs) (lo hi : Option Int) : RelDs g F (cutD ds lo hi) (cutV vs lo hi) := by
  unfold cutD cutV
  rw [r.len]
  exact (r.drop _).take _
def slD (x : D) (lo hi : Option Int) : Option D := match x with
  | .str z => if z.length ≤ sizeLine then some (.str (cutS z lo hi)) else none
  | .tup xs => some (.tup (cutD xs lo hi))
  | .lst xs => some (.lst (cutD xs lo hi))
  | _ => none
def sliceE (a : Env → M Ex D) (l h : Env → M Ex (Option Int)) : Env → M Ex D := fun ρ => bindM (a ρ) fun x => bindM (l ρ) fun lo => bindM (h ρ) fun hi => seeM fun _ => slD x lo hi
def rSl (g : G) : V → Option Int → Option Int → Hp → VK → Prop := fun x lo hi H Q => ∃ Z F st dx d, Sim g Z st F H ∧ RelD g F dx x ∧ slD dx lo hi = some d ∧ Res g (RelD g) Z F Q d st
theorem slr_sl (hK : X.K = g.K) : SlR X (rSl g) := by
  intro pins s σ H x v vl vu lo hi sl Q I rx hsl hl hu ⟨Z, F, st, dx, d, sim, hx, e, q⟩
  unfold slD at e
  split at e
  · rename_i z
    split at e
    · rename_i hz
      cases e
      unfold RelD at hx
      exact sl_str pins s σ H x v vl vu lo hi sl Q I rx hsl hl hu ⟨z, hx, hz, q _ F H (Same.refl _) sim relD_str⟩
    · cases e
  · rename_i xs
    cases e
    unfold RelD at hx
    obtain ⟨a, vs, rfl, h1, r1⟩ := hx
    refine sl_tupA pins s σ H _ v vl vu lo hi sl Q I rx hsl hl hu ⟨a, vs, rfl, by rw [hK]; exact sqT_mono sim.same h1, fun hw => ?_, fun hw p np => ?_⟩
    · have ec : cutD xs lo hi = xs := by
        unfold cutD
        rw [← r1.len, hw.1, hw.2, List.drop_zero, Nat.sub_zero, r1.len, List.take_length]
      rw [ec] at q
      exact q _ F H (Same.refl _) sim (by unfold RelD; exact ⟨a, vs, rfl, h1, r1⟩)
    · have s := same_upd (o := .tup (cutV vs lo hi)) (sim.free np).1
      exact q _ _ _ s (sim.new np) (by unfold RelD; exact ⟨p, _, rfl, SqT.of upd_same, (r1.cut lo hi).mono s⟩)
  · rename_i xs
    cases e
    unfold RelD at hx
    obtain ⟨a, vs, rfl, h1, r1⟩ := hx
    refine sl_list pins s σ H _ v vl vu lo hi sl Q I rx hsl hl hu ⟨a, vs, rfl, by rw [hK]; exact SqL.of (sim.same _ _ h1), fun p np => ?_⟩
    have s := same_upd (o := .lst (cutV vs lo hi)) (sim.free np).1
    exact q _ _ _ s (sim.new np) (by unfold RelD; exact ⟨p, _, rfl, upd_same, (r1.cut lo hi).mono s⟩)
  · cases e
theorem fe_slice {lo hi : Option Expr} {a : Env → M Ex D} {l h : Env → M Ex (Option Int)} {p2 : Pos} (hK : X.K = g.K) (ha : FE g X W e a) (hl : FO g X W lo l) (hh : FO g X W hi h) : FE g X W (.Subscript e (.Slice lo hi none p2) pos) (sliceE a l h) :=
  ⟨PE.imp (pe_slice (slr_sl hK) ha.pe hl.po hh.po) fun σ H Q ⟨Z, F, st, ρ, E, N, q⟩ => tX.go N (ha.mono ρ) (fun _ => mono_bind (hl.mono ρ) fun _ => mono_bind (hh.mono ρ) fun _ => mono_see _) q fun dx x F st H1 e N rx q =>
    tX.go (R1 := fun _ a b => a = b) N (hl.mono ρ) (fun _ => mono_bind (hh.mono ρ) fun _ => mono_see _) q fun lo lo' F2 st H2 e2 N el q => tX.go (R1 := fun _ a b => a = b) N (hh.mono ρ) (fun _ => mono_see _) q fun hi hi' F3 st H3 e3 N eh q => by
      subst el; subst eh
      obtain ⟨d, ed, q⟩ := q
      exact ⟨Z, F3, st, dx, d, N.sim, (rx.mono e2).mono e3, ed, q⟩,
   fun ρ => mono_bind (ha.mono ρ) fun _ => mono_bind (hl.mono ρ) fun _ => mono_bind (hh.mono ρ) fun _ => mono_see _⟩
end DL

/-! ### fields, displays, calls -/
namespace DL
open PySem L2
variable {g : G} {Z F F' H H' : Hp} {W : WX} {σ : St} {ρ : Env} {st : S} {α β γ δ : Type} {X : Cx} {e e1 e2 e3 : Expr} {pos : Pos}
/-! ### new places, places let go -/
def newM {ε : Type} (o : Ob) : M ε D := fun s Q _ => ∀ a, s.map a = none → Q (.ref a) (s.set a o)
theorem mono_new {ε : Type} {o : Ob} : Mono (newM o : M ε D) := fun _ _ _ _ _ hq _ h a n => hq _ _ (h a n)
def obD : Ob → Option D
  | .lst xs => some (.lst xs)
  | .dic kvs => some (.dic (kvs.map (·.1)) (kvs.map (·.2)))
  | .ins c fs => some (.ins c (fs.map (·.1)) (fs.map (·.2)))
  | _ => none
def freeze {ε : Type} : D → M ε D := fun d s Q _ => ∃ a o x, d = .ref a ∧ s.map a = some o ∧ obD o = some x ∧ Q x (s.del a)
theorem mono_freeze {ε : Type} (d : D) : Mono (freeze d : M ε D) := fun _ _ _ _ _ hq _ ⟨a, o, x, h1, h2, h3, h⟩ => ⟨a, o, x, h1, h2, h3, hq _ _ h⟩
theorem Sim.freeze {a : Addr} {o : Ob} {x : D} (s : Sim g Z st F H) (h : st.map a = some o) (k : obD o = some x) : ∃ F', Same F F' ∧ Sim g Z (st.del a) F' H ∧ RelD g F' x (.ref a) := by
  obtain ⟨f, r⟩ := s.ob a o h
  cases o with
  | bag c => cases k
  | raw => cases k
  | lst ds =>
    cases (Option.some.inj k)
    obtain ⟨vs, e, r⟩ := r
    exact ⟨_, same_upd f, s.keep h e (by intro z; cases z), by unfold RelD; exact ⟨a, vs, rfl, upd_same, r.mono (same_upd f)⟩⟩
  | dic ds =>
    cases (Option.some.inj k)
    obtain ⟨vs, e, r1, r⟩ := r
    exact ⟨_, same_upd f, s.keep h e (by intro z; cases z), by unfold RelD; exact ⟨a, vs, rfl, upd_same, r1, r.mono (same_upd f)⟩⟩
  | ins c ds =>
    cases (Option.some.inj k)
    obtain ⟨dx, vs, e, r1, r⟩ := r
    exact ⟨_, same_upd f, s.keep h e (by intro z; cases z), by unfold RelD; exact ⟨a, dx, vs, rfl, upd_same, r1, r.mono (same_upd f)⟩⟩
/-- slot i holds a place that is let go -/
def freezeS (i : Nat) : Env → MS := fun ρ => bindM (up ρ (var i ρ)) fun d => bindM (freeze d) fun x => pureM (.nx (ρ.set i (some x)))
theorem mono_freezeS (i : Nat) (ρ : Env) : Mono (freezeS i ρ) := mono_bind (mono_up (mono_var i ρ)) fun d => mono_bind (mono_freeze d) fun _ => mono_pure _
theorem list_set_same {α : Type} {xs : List α} {i : Nat} {x : α} (h : xs[i]? = some x) : xs.set i x = xs := by
  refine List.ext_getElem? fun j => ?_
  by_cases q : i = j
  · subst q; rw [List.getElem?_set_self', h]; rfl
  · rw [List.getElem?_set_ne q]
theorem fs_freeze {s : Stmt} {b : Env → MS} (i : Nat) (h : FS g X W s b) : FS g X W s (seqS (freezeS i) b) := fs_pre (fun D σ H ⟨Z, F, st, ρ, E, N, q⟩ => by
  obtain ⟨d, e, a, o, x, rfl, hm, ho, q⟩ := varO_inv q
  obtain ⟨F', s, sim, r⟩ := N.sim.freeze hm ho
  refine q σ F' H s sim ?_
  obtain ⟨v, e', rv⟩ := N.env.2 i _ e
  unfold RelD at rv
  subst rv
  have := (N.env.mono s).set (i := i) r
  rw [list_set_same e'] at this
  exact this) (mono_freezeS i) h
/-! ### displays -/
def tupE (a : Env → M Ex (List D)) : Env → M Ex D := fun ρ => bindM (a ρ) fun ds => bindM (needM (ds.length ≤ sizeLine)) fun _ => pureM (.tup ds)
theorem mono_tupE {a : Env → M Ex (List D)} (h : ∀ ρ, Mono (a ρ)) (ρ : Env) : Mono (tupE a ρ) := mono_bind (h ρ) fun _ => mono_bind (mono_need _) fun _ => mono_pure _
theorem fe_tup {es : List Expr} {x1} {a : Env → M Ex (List D)} (h : FA g X W es a) : FE g X W (.Tuple es x1 pos) (tupE a) :=
  ⟨PE.imp (pe_tup h.pa) fun σ H Q ⟨Z, F, st, ρ, E, N, q⟩ => tX.go (R1 := RelDs g) N (h.mono ρ) (fun _ => mono_bind (mono_need _) fun _ => mono_pure _) q fun ds vs F st H1 e N r q => by
    obtain ⟨hl, q⟩ := q
    refine ⟨by rw [r.len]; exact hl, fun p np => ?_⟩
    have s := same_upd (o := .tup vs) (N.sim.free np).1
    exact q _ _ _ s (N.sim.new np) (by unfold RelD; exact ⟨p, vs, rfl, SqT.of upd_same, r.mono s⟩), mono_tupE h.mono⟩
/-- a list that never changes -/
def lstE (a : Env → M Ex (List D)) : Env → M Ex D := fun ρ => bindM (a ρ) fun ds => bindM (needM (ds.length ≤ sizeLine)) fun _ => pureM (.lst ds)
theorem fe_lst {es : List Expr} {a : Env → M Ex (List D)} (h : FA g X W es a) : FE g X W (.List es pos) (lstE a) :=
  ⟨PE.imp (pe_lst h.pa) fun σ H Q ⟨Z, F, st, ρ, E, N, q⟩ => tX.go (R1 := RelDs g) N (h.mono ρ) (fun _ => mono_bind (mono_need _) fun _ => mono_pure _) q fun ds vs F st H1 e N r q => by
    obtain ⟨hl, q⟩ := q
    refine ⟨by rw [r.len]; exact hl, fun p np => ?_⟩
    have s := same_upd (o := .lst vs) (N.sim.free np).1
    exact q _ _ _ s (N.sim.new np) (by unfold RelD; exact ⟨p, vs, rfl, upd_same, r.mono s⟩), fun ρ => mono_bind (h.mono ρ) fun _ => mono_bind (mono_need _) fun _ => mono_pure _⟩
/-- a list that may change -/
def lstN (a : Env → M Ex (List D)) : Env → M Ex D := fun ρ => bindM (a ρ) fun ds => bindM (needM (ds.length ≤ sizeLine)) fun _ => newM (.lst ds)
theorem fe_lstN {es : List Expr} {a : Env → M Ex (List D)} (h : FA g X W es a) : FE g X W (.List es pos) (lstN a) :=
  ⟨PE.imp (pe_lst h.pa) fun σ H Q ⟨Z, F, st, ρ, E, N, q⟩ => tX.go (R1 := RelDs g) N (h.mono ρ) (fun _ => mono_bind (mono_need _) fun _ => mono_new) q fun ds vs F st H1 e N r q => by
    obtain ⟨hl, q⟩ := q
    refine ⟨by rw [r.len]; exact hl, fun p np => ?_⟩
    obtain ⟨nF, nS⟩ := N.sim.free np
    exact q p nS _ F _ (Same.refl _) (N.sim.put nF (.inl np) ⟨vs, upd_same, r⟩) relD_ref, fun ρ => mono_bind (h.mono ρ) fun _ => mono_bind (mono_need _) fun _ => mono_new⟩
/-- a dict that may change -/
def dicN : Env → M Ex D := fun _ => newM (.dic [])
theorem fe_dicN : FE g X W (.Dict [] [] pos) dicN := ⟨PE.imp pe_dnewK fun σ H Q ⟨Z, F, st, ρ, E, N, q⟩ p np => by
  obtain ⟨nF, nS⟩ := N.sim.free np
  exact q p nS _ F _ (Same.refl _) (N.sim.put nF (.inl np) ⟨[], upd_same, rfl, .nil⟩) relD_ref, fun ρ => mono_new⟩
/-! ### fields -/
theorem lookup_rel : ∀ {fs : List (Str × V)} {ns : List Str} {ds : List D} {f : Str} {d : D}, fs.map (·.1) = ns → RelDs g F ds (fs.map (·.2)) → (ns.zip ds).lookup f = some d → ∃ v, fs.lookup f = some v ∧ RelD g F d v
  | [], ns, ds, f, d, h1, h2, h3 => by
    cases h1; cases h3
  | (n, v) :: fs, ns, ds, f, d, h1, h2, h3 => by
    subst h1
    cases ds with
    | nil => have := h2.nil_inv; cases this
    | cons x ds =>
      obtain ⟨w, ws, e, r1, r2⟩ := h2.cons_inv
      cases e
      rw [List.map_cons, List.zip_cons_cons, List.lookup_cons] at h3
      rw [List.lookup_cons]
      cases q : (f == n) with
      | true => rw [q] at h3; cases h3; exact ⟨_, rfl, r1⟩
      | false =>
        rw [q] at h3
        exact lookup_rel rfl r2 h3
theorem lookup_none : ∀ {fs : List (Str × V)} {f : Str}, f ∉ fs.map (·.1) → fs.lookup f = none
  | [], _, _ => rfl
  | (n, v) :: fs, f, h => by
    rw [List.lookup_cons, beq_eq_false_iff_ne.mpr fun e => h (by rw [e]; simp)]
    exact lookup_none fun q => h (by simp only [List.map_cons, List.mem_cons]; exact .inr q)
/-- an instance of the class c: its fields -/
def insF (st : S) (c : Str) : D → Option (List Str × List D)
  | .ins c' ns vs => if c' = c then some (ns, vs) else none
  | .ref a => match st.map a with
    | some (.ins c' fs) => if c' = c then some (fs.map (·.1), fs.map (·.2)) else none
    | _ => none
  | _ => none
theorem Sim.insF {c : Str} {d : D} {v : V} {p : List Str × List D} (s : Sim g Z st F H) (r : RelD g F d v) (h : DL.insF st c d = some p) : ∃ a dx fs, v = .ref a ∧ H a = some (.ins (g.cl c) dx fs) ∧ fs.map (·.1) = p.1 ∧ RelDs g F p.2 (fs.map (·.2)) := by
  cases d with
  | ins c' ns vs =>
    replace h : (if c' = c then some (ns, vs) else none) = some p := h
    split at h
    · rename_i e
      subst e
      cases h
      unfold RelD at r
      obtain ⟨a, dx, fs, rfl, h1, h2, h3⟩ := r
      exact ⟨a, dx, fs, rfl, s.same _ _ h1, h2, h3⟩
    · cases h
  | ref a =>
    unfold RelD at r
    subst r
    unfold DL.insF at h
    simp only at h
    cases m : st.map a with
    | none => rw [m] at h; cases h
    | some o =>
      rw [m] at h
      cases o with
      | ins c' fds =>
        replace h : (if c' = c then some (fds.map (·.1), fds.map (·.2)) else none) = some p := h
        split at h
        · rename_i e
          subst e
          cases h
          obtain ⟨_, dx, fs, h1, h2, h3⟩ := s.ob a _ m
          exact ⟨a, dx, fs, rfl, h1, h2, h3⟩
        · cases h
      | _ => cases h
  | _ => cases h
def fldD (c f : Str) (x : D) (st : S) : Option D := (insF st c x).bind fun p => (p.1.zip p.2).lookup f
def fldE (c f : Str) (a : Env → M Ex D) : Env → M Ex D := fun ρ => bindM (a ρ) fun x => seeM (fldD c f x)
theorem fe_fld {c f : Str} {a : Env → M Ex D} (hK : X.K = g.K) (hc : Cls g.K (g.cl c)) (hn : NoAttr g.K (g.cl c) f) (h : FE g X W e a) (hb : attributeBase e f X.env (eval e X.env) = eval e X.env := by rfl) : FE g X W (.Attribute e f pos) (fldE c f a) :=
  ⟨PE.imp (pe_fld h.pe hb) fun σ H Q ⟨Z, F, st, ρ, E, N, q⟩ => tX.go N (h.mono ρ) (fun _ => mono_see _) q fun dx x F st H1 e N r q => by
    obtain ⟨d, ed, q⟩ := q
    obtain ⟨p, h1, h2⟩ := Option.bind_eq_some_iff.mp ed
    obtain ⟨a, dx, fs, rfl, h3, h4, h5⟩ := N.sim.insF r h1
    obtain ⟨v, h6, h7⟩ := lookup_rel h4 h5 h2
    rw [hK]
    exact ⟨a, _, dx, fs, v, rfl, h3, hc, hn, h6, tX.done N h7 q⟩, fun ρ => mono_bind (h.mono ρ) fun _ => mono_see _⟩
/-- self.f = e, at a place -/
def putD (f : Str) (v : D) : List (Str × D) → List (Str × D)
  | [] => [(f, v)]
  | (n, x) :: r => if n = f then (n, v) :: r else (n, x) :: putD f v r
theorem putD_rel {f : Str} {d : D} {v : V} (rv : RelD g F d v) : ∀ {fs : List (Str × V)} {fds : List (Str × D)}, fs.map (·.1) = fds.map (·.1) → RelDs g F (fds.map (·.2)) (fs.map (·.2)) → (putF f v fs).map (·.1) = (putD f d fds).map (·.1) ∧ RelDs g F ((putD f d fds).map (·.2)) ((putF f v fs).map (·.2))
  | [], [], _, _ => ⟨rfl, .one rv⟩
  | (n, x) :: fs, (m, y) :: fds, h1, h2 => by
    injection h1 with h3 h4
    have h3 : n = m := h3
    subst h3
    obtain ⟨w, ws, e, r1, r2⟩ := h2.cons_inv
    cases e
    by_cases q : n = f
    · have e1 : putF f v ((n, x) :: fs) = (n, v) :: fs := by show (if n = f then _ else _) = _; rw [if_pos q]
      have e2 : putD f d ((n, y) :: fds) = (n, d) :: fds := by show (if n = f then _ else _) = _; rw [if_pos q]
      rw [e1, e2]
      exact ⟨by simp [h4], .cons rv r2⟩
    · have e1 : putF f v ((n, x) :: fs) = (n, x) :: putF f v fs := by show (if n = f then _ else _) = _; rw [if_neg q]
      have e2 : putD f d ((n, y) :: fds) = (n, y) :: putD f d fds := by show (if n = f then _ else _) = _; rw [if_neg q]
      rw [e1, e2]
      obtain ⟨h5, h6⟩ := putD_rel rv h4 r2
      exact ⟨by simp [h5], .cons r1 h6⟩
def setFld (c f : Str) (x v : D) : M (Ex × Env) Unit := fun s Q _ => ∃ a fs, x = .ref a ∧ s.map a = some (.ins c fs) ∧ fs.length < 900 ∧ Q () (s.set a (.ins c (putD f v fs)))
theorem mono_setFld {c f : Str} {x v : D} : Mono (setFld c f x v) := fun _ _ _ _ _ hq _ ⟨a, fs, h1, h2, h3, h⟩ => ⟨a, fs, h1, h2, h3, hq _ _ h⟩
def fldS (c f : Str) (o v : Env → M Ex D) : Env → MS := fun ρ => bindM (up ρ (v ρ)) fun y => bindM (up ρ (o ρ)) fun x => bindM (setFld c f x y) fun _ => pureM (.nx ρ)
theorem fs_fld {c f : Str} {o v : Env → M Ex D} {p' : Pos} (hK : X.K = g.K) (hc : Cls g.K (g.cl c)) (hn : NoAttr g.K (g.cl c) f) (ho : FE g X W e1 o) (hv : FE g X W e2 v) (hs : swapsWith e2 (some (.Attribute e1 f p')) pos.line X.env = pure false := by rfl) :
    FS g X W (.Assign [.Attribute e1 f p'] e2 pos) (fldS c f o v) := by
  have mk : ∀ ρ y x, Mono (bindM (setFld c f x y) fun _ => (pureM (.nx ρ) : MS)) := fun ρ y x => mono_bind mono_setFld fun _ => mono_pure _
  refine ⟨PS.imp (ps_fld ho.pe hv.pe hs) fun D σ H ⟨Z, F, st, ρ, E, N, q⟩ => tS.go N (hv.mono ρ) (fun _ => mono_bind (mono_up (ho.mono ρ)) (mk ρ _)) q fun dy y F st H1 e N ry q => tS.go (R1 := RelD g) N (ho.mono ρ) (mk ρ _) q fun dx x F2 st H2 e2 N rx q => ?_,
    fun ρ => mono_bind (mono_up (hv.mono ρ)) fun _ => mono_bind (mono_up (ho.mono ρ)) (mk ρ _)⟩
  obtain ⟨a, fds, rfl, hm, hl, q⟩ := q
  unfold RelD at rx
  subst rx
  obtain ⟨nF, dx, fs, h1, h2, h3⟩ := N.sim.ob a _ hm
  rw [hK]
  have hlen : fs.length = fds.length := by have := congrArg List.length h2; simpa using this
  obtain ⟨h4, h5⟩ := putD_rel (ry.mono e2) h2 h3
  exact ⟨a, _, dx, fs, rfl, h1, hc, hn, by omega, q σ F2 _ (Same.refl _) (N.sim.put nF (.inr ⟨_, hm, by intro z; cases z⟩) ⟨dx, _, upd_same, h4, h5⟩) N.env⟩
end DL

/-! ### calls of defs, methods, classes -/
namespace DL
open PySem L2
variable {g : G} {Z F F' H H' : Hp} {W : WX} {σ : St} {ρ : Env} {st : S} {α β γ δ : Type} {X : Cx} {e e1 e2 e3 : Expr} {pos : Pos}
abbrev Fn := List D → List D → M Ex D
def excD (g : G) (Z F : Hp) (E : XK) : Ex → S → Prop := fun x s => ∀ u d F' H', Same F F' → Sim g Z s F' H' → RelEx g F' u d x → E u d H'
def spK (g : G) (m : Fn) : List V → List V → Hp → VK → XK → Prop := fun vs zs H Q E => ∃ Z F st ds es, Sim g Z st F H ∧ RelDs g F ds vs ∧ RelDs g F es zs ∧ m ds es st (Res g (RelD g) Z F Q) (excD g Z F E)
/-- the def at f, called with values and with keywords ks, does as m says -/
def Cal [Kd] (g : G) (P : Program) (w : World) (K : PySem.W.Frag) (mg : Str → Option Value) (base : Heap) (k : Nat) (f : Addr) (ks : List Str) (m : Fn) : Prop :=
  ∀ (A : Around) (outer : List PySem.Env) (s : Shared) (H : Hp) (us ws : List Value) (vs zs : List V) (Q : VK) (E : XK), Room k A → Env0 P w K mg base A outer s H → Vals vs us → Vals zs ws → spK g m vs zs H Q E →
    codeAny (model P w) A (.call (.ref f) ⟨us, ks.zip ws⟩) (CR (XCX P w) outer P w H s Q E) s
def MonoF (m : Fn) : Prop := ∀ ds es, Mono (m ds es)
/-- positional arguments alone, defaults dd -/
def posF (n : Nat) (dd : List D) (m : List D → M Ex D) : Fn := fun ds es => match es with
  | [] => if ds.length = n then m (ds ++ dd) else failM
  | _ => failM
theorem mono_posF {n : Nat} {dd : List D} {m : List D → M Ex D} (h : ∀ ds, Mono (m ds)) : MonoF (posF n dd m) := fun ds es => by
  cases es with
  | nil => exact mono_ite (h _) mono_fail
  | cons _ _ => exact mono_fail
theorem cal_pos [Kd] {P : Program} {w : World} {K : PySem.W.Frag} {mg : Str → Option Value} {base : Heap} {k n j : Nat} {f : Addr} {fd : FuncData} {ps : List Str} {m : List D → M Ex D} {its : List Value} {dvs : List V} {dd : List D}
    (Fo : FnOk P w K mg base (XCX P w) k f fd ps (spD g n m)) (hb : Binds K fd ps its) (hd : Vals dvs its) (hr : ∀ F, RelDs g F dd dvs) (hn : j + dd.length = n) : Cal g P w K mg base k f [] (posF j dd m) := by
  intro A outer s H us ws vs zs Q E room env r rz ⟨Z, F, st, ds, es, sim, h1, h2, q⟩
  cases es with
  | cons _ _ => exact q.elim
  | nil =>
  have hz := h2.nil_inv
  subst hz
  cases rz
  replace q : (if ds.length = j then m (ds ++ dd) else failM) st (Res g (RelD g) Z F Q) (excD g Z F E) := q
  by_cases hj : ds.length = j
  · rw [if_pos hj] at q
    have R := FnOk.raw (dvs := dvs) Fo hb hd
    have hl2 : (vs ++ dvs).length = n := by rw [List.length_append, h1.len, (hr F).len]; omega
    exact R A outer s H us vs Q E room env r ⟨Z, F, st, ds ++ dd, hl2, sim, h1.append (hr F), q⟩
  · rw [if_neg hj] at q; exact q.elim
/-- with keywords: gD puts all in its place -/
def kwF (n j : Nat) (gD : List D → List D → List D) (m : List D → M Ex D) : Fn := fun ds es => if ds.length = n ∧ es.length = j then m (gD ds es) else failM
theorem mono_kwF {n j : Nat} {gD : List D → List D → List D} {m : List D → M Ex D} (h : ∀ ds, Mono (m ds)) : MonoF (kwF n j gD m) := fun ds es => mono_ite (h _) mono_fail
theorem cal_kw [Kd] {P : Program} {w : World} {K : PySem.W.Frag} {mg : Str → Option Value} {base : Heap} {k n i j : Nat} {f : Addr} {fd : FuncData} {ps ks : List Str} {m : List D → M Ex D} {gg : List Value → List Value → List Value} {gV : List V → List V → List V} {gD : List D → List D → List D}
    (Fo : FnOk P w K mg base (XCX P w) k f fd ps (spD g n m)) (hb : KBn K fd ps i ks gg gV) (hj : ks.length = j) (hD : ∀ {F ds vs es zs}, ds.length = i → es.length = j → RelDs g F ds vs → RelDs g F es zs → RelDs g F (gD ds es) (gV vs zs) ∧ (gD ds es).length = n) :
    Cal g P w K mg base k f ks (kwF i j gD m) := by
  intro A outer s H us ws vs zs Q E room env r rz ⟨Z, F, st, ds, es, sim, h1, h2, q⟩
  replace q : (if ds.length = i ∧ es.length = j then m (gD ds es) else failM) st (Res g (RelD g) Z F Q) (excD g Z F E) := q
  by_cases hh : ds.length = i ∧ es.length = j
  · rw [if_pos hh] at q
    obtain ⟨h3, h4⟩ := hD hh.1 hh.2 h1 h2
    refine Fo.run A outer s H ⟨us, ks.zip ws⟩ (gg us ws) (gV vs zs) Q E room env (hb.to s us ws (env.mod.kin.keeps fun b o e => (env.bs b o e).1) (by rw [← r.length, h1.len]; exact hh.1) (by rw [← rz.length, h2.len, hj]; exact hh.2)) (hb.rel r rz) ⟨Z, F, st, gD ds es, by rw [h3.len]; exact h4, sim, h3, q⟩
  · rw [if_neg hh] at q; exact q.elim
theorem code_cal [Kd] {k : Nat} {f : Addr} {ks : List Str} {m : Fn} {pins : List (Addr × Obj)} {s : Shared} {Q : VK} {us ws : List Value} {vs zs : List V} (C : Cal g X.prog X.w X.K X.mg X.base k f ks m) (hr : Room k X.A) (tk : Takes X W) (I : Inv X pins σ H s) (r : Vals vs us) (rz : Vals zs ws)
    (h : spK g m vs zs H Q (WE W σ)) : codeAny (model X.prog X.w) X.A (.call (.ref f) ⟨us, ks.zip ws⟩) (fun r s' => match r with | .ok (.ret v) => EP X pins σ Q v s' | .ok _ => False | .error e => X.xe e s') s := by
  refine codeAny_mono (C X.A X.stack s H us ws vs zs Q (WE W σ) hr I.env0 r rz h) fun r s' hq => ?_
  cases r with
  | error e => exact passAt tk σ pins H s e s' I hq
  | ok fl =>
    cases fl with
    | ret u => exact I.after hq
    | next => exact False.elim hq
    | brk => exact False.elim hq
    | cont => exact False.elim hq
theorem run_cal [Kd] {k : Nat} {f : Addr} {ks : List Str} {m : Fn} {pins : List (Addr × Obj)} {s : Shared} {Q : VK} {us ws : List Value} {vs zs : List V} (C : Cal g X.prog X.w X.K X.mg X.base k f ks m) (hr : Room k X.A) (tk : Takes X W) (I : Inv X pins σ H s) (r : Vals vs us) (rz : Vals zs ws)
    (h : spK g m vs zs H Q (WE W σ)) : wpAny (model X.prog X.w) X.A (call (.ref f) us (ks.zip ws)) (EP X pins σ Q) X.xe s := wpAny_call (code_cal C hr tk I r rz h)
structure FK (g : G) (X : Cx) (W : WX) (kws : List Keyword) (m : Env → M Ex (List D)) : Prop where
  pk : PK X kws (tX g (RelDs g) W m)
  mono : ∀ ρ, Mono (m ρ)
theorem PK.imp {kws : List Keyword} {t t' : TA} (h : PK X kws t) (k : ∀ σ H Q, t' σ H Q → t σ H Q) : PK X kws t' := ⟨fun p pins s σ H Q I q => h.run p pins s σ H Q I (k _ _ _ q)⟩
theorem fk_nil : FK g X W [] argsN := ⟨PK.imp pk_nil fun σ H Q ⟨Z, F, st, ρ, E, N, h⟩ => tX.done (R := RelDs g) (d := []) N .nil h, fun _ => mono_pure _⟩
theorem fk_cons {kws : List Keyword} {nm kpos} {m : Env → M Ex D} {n : Env → M Ex (List D)} (h : FE g X W e m) (k : FK g X W kws n) : FK g X W (⟨nm, e, kpos⟩ :: kws) (argsC m n) :=
  ⟨PK.imp (pk_cons h.pe k.pk) fun _ _ _ ⟨Z, F, st, ρ, E, N, q⟩ => tX.go N (h.mono ρ) (fun _ => mono_bind (k.mono ρ) fun _ => mono_pure _) q fun d v F st H1 e N r q =>
    tX.go (R1 := RelDs g) N (k.mono ρ) (fun _ => mono_pure _) q fun ds vs F2 st2 H2 e2 N2 r2 q2 => tX.done (R := RelDs g) N2 (.cons (r.mono e2) r2) q2, fun ρ => mono_bind (h.mono ρ) fun _ => mono_bind (k.mono ρ) fun _ => mono_pure _⟩
/-- what a call's exceptions are wished to be -/
theorem Now.exc {E : Ex → Env → S → Prop} {x : Ex} {s : S} (N : Now g W Z σ H F ρ st E) (h : E x ρ s) : excD g Z F (WE W σ) x s := fun u d F' H' e sim rx => N.lk x ρ s F' H' u d σ e sim (N.env.mono e) rx h
def callE (m : Fn) (a k : Env → M Ex (List D)) : Env → M Ex D := fun ρ => bindM (a ρ) fun ds => bindM (k ρ) fun es => m ds es
theorem mono_callE {m : Fn} {a k : Env → M Ex (List D)} (hm : MonoF m) (ha : ∀ ρ, Mono (a ρ)) (hk : ∀ ρ, Mono (k ρ)) (ρ : Env) : Mono (callE m a k ρ) := mono_bind (ha ρ) fun _ => mono_bind (hk ρ) fun _ => hm _ _
variable {k : Nat} {f : Addr} {ks : List Str} {m : Fn} {x : Str} {p : Pos} {es : List Expr} {kws : List Keyword} {a kk : Env → M Ex (List D)}
/-- the keywords, then the call -/
theorem kwGo {E : Ex → Env → S → Prop} {Q : VK} {ds : List D} {vs : List V} (hM : MonoF m) (hkw : FK g X W kws kk) (N : Now g W Z σ H F ρ st E) (r : RelDs g F ds vs) (q : bindM (kk ρ) (m ds) st (Res g (RelD g) Z F Q) (fun x s => E x ρ s)) :
    tX g (RelDs g) W kk σ H fun zs H2 => spK g m vs zs H2 Q (WE W σ) :=
  tX.go (R1 := RelDs g) N (hkw.mono ρ) (fun _ => hM _ _) q fun es zs F2 st H2 e2 N r2 q => ⟨Z, F2, st, ds, es, N.sim, r.mono e2, r2, hM _ _ _ _ _ _ _ (fun _ _ z => z) (fun _ _ z => N.exc z) q⟩
theorem callGo {E : Ex → Env → S → Prop} {Q : VK} {es : List Expr} (hM : MonoF m) (ha : FA g X W es a) (hkw : FK g X W kws kk) (N : Now g W Z σ H F ρ st E) (q : callE m a kk ρ st (Res g (RelD g) Z F Q) (fun x s => E x ρ s)) :
    tX g (RelDs g) W a σ H fun vs H1 => tX g (RelDs g) W kk σ H1 fun zs H2 => spK g m vs zs H2 Q (WE W σ) :=
  tX.go (R1 := RelDs g) N (ha.mono ρ) (fun _ => mono_bind (hkw.mono ρ) fun _ => hM _ _) q fun ds vs F st H1 e1 N r q => kwGo hM hkw N r q
theorem callGoX {E : Ex → Env → S → Prop} {Q : VK} {es : List Expr} {x : D} {v : V} (hM : MonoF m) (ha : FA g X W es a) (hkw : FK g X W kws kk) (N : Now g W Z σ H F ρ st E) (rx : RelD g F x v) (q : callE (fun ds es => m (x :: ds) es) a kk ρ st (Res g (RelD g) Z F Q) (fun x s => E x ρ s)) :
    tX g (RelDs g) W a σ H fun vs H1 => tX g (RelDs g) W kk σ H1 fun zs H2 => spK g m (v :: vs) zs H2 Q (WE W σ) :=
  tX.go (R1 := RelDs g) N (ha.mono ρ) (fun _ => mono_bind (hkw.mono ρ) fun _ => hM _ _) q fun ds vs F st H1 e1 N r q => kwGo hM hkw N (.cons (rx.mono e1) r) q
theorem fe_call1 [Kd] (C : Cal g X.prog X.w X.K X.mg X.base k f ks m) (hM : MonoF m) (hr : Room k X.A) (tk : Takes X W) (hg : Gl X x) (hm : X.mg x = some (.ref f)) (hk : PySem.W.keepIn X.K (.ref f) = true) (ha : FA g X W (e :: es) a) (hkw : FK g X W kws kk)
    (hall : (backToKw pos (keywordEach kws X.env)).all (·.1.isSome) = true := by rfl) (hks : (backToKw pos (keywordEach kws X.env)).filterMap (·.1) = ks := by rfl) (hdb : (x == ("__debug__" : Str)) = false := by decide)
    (he : starEach (e :: es) X.env = (false, eval e X.env) :: starEach es X.env := by rfl) (hpl : ((backTo pos (starEach (e :: es) X.env)).any (·.1) || (backToKw pos (keywordEach kws X.env)).any (·.1.isNone)) = false := by rfl) :
    FE g X W (.Call (.Name x p) (e :: es) kws pos) (callE m a kk) := by
  refine ⟨⟨fun pins s σ H Q I ⟨Z, F, st, ρ, E, N, q⟩ => ?_⟩, mono_callE hM ha.mono hkw.mono⟩
  refine wpAny_Call_Name_kw (ld_glob I hg hm ?_ hdb)
  have t1 := callGo hM ha hkw N q
  refine PySem.W.callWith_KW (h₀ := X.base) I.ok.mod.kin hk hall (thn (ha.pa.run pos pins s σ H _ I t1) fun us s1 ⟨vs, H1, I1, r, q⟩ => ?_) hpl he
  refine thn (hkw.pk.run pos pins s1 σ H1 _ I1 q) fun ws s2 ⟨zs, H2, I2, rz, q2⟩ => ⟨I2.kIn, ?_⟩
  rw [hks]
  exact run_cal C hr tk I2 r rz q2
theorem fe_call0 [Kd] (C : Cal g X.prog X.w X.K X.mg X.base k f ks m) (hM : MonoF m) (hr : Room k X.A) (tk : Takes X W) (hg : Gl X x) (hm : X.mg x = some (.ref f)) (hk : PySem.W.keepIn X.K (.ref f) = true) (hkw : FK g X W kws kk)
    (hall : (backToKw pos (keywordEach kws X.env)).all (·.1.isSome) = true := by rfl) (hks : (backToKw pos (keywordEach kws X.env)).filterMap (·.1) = ks := by rfl) (hdb : (x == ("__debug__" : Str)) = false := by decide)
    (hpl : ((backTo pos (starEach [] X.env)).any (·.1) || (backToKw pos (keywordEach kws X.env)).any (·.1.isNone)) = false := by rfl) :
    FE g X W (.Call (.Name x p) [] kws pos) (callE m argsN kk) := by
  refine ⟨⟨fun pins s σ H Q I ⟨Z, F, st, ρ, E, N, q⟩ => ?_⟩, mono_callE hM (fun _ => mono_pure _) hkw.mono⟩
  refine wpAny_Call_Name_kw (ld_glob I hg hm ?_ hdb)
  refine PySem.W.callWith_KW0 (h₀ := X.base) I.ok.mod.kin hk hall ?_ hpl
  refine thn (hkw.pk.run pos pins s σ H _ I (kwGo hM hkw N (ds := []) .nil q)) fun ws s2 ⟨zs, H2, I2, rz, q2⟩ => ⟨I2.kIn, ?_⟩
  rw [hks]
  exact run_cal (vs := []) (us := []) C hr tk I2 .nil rz q2
/-! ### methods -/
/-- x is an instance of the class c without a field m -/
def insOk (c mn : Str) (x : D) (st : S) : Option Unit := (insF st c x).bind fun p => if mn ∈ p.1 then none else some ()
def methE (c mn : Str) (m : Fn) (o : Env → M Ex D) (a k : Env → M Ex (List D)) : Env → M Ex D := fun ρ => bindM (o ρ) fun x => bindM (seeM (insOk c mn x)) fun _ => bindM (a ρ) fun ds => bindM (k ρ) fun es => m (x :: ds) es
theorem MonoF.cons (h : MonoF m) (x : D) : MonoF fun ds es => m (x :: ds) es := fun ds es => h _ _
theorem Sim.insOk {c mn : Str} {d : D} {v : V} (s : Sim g Z st F H) (r : RelD g F d v) (h : DL.insOk c mn d st = some ()) : ∃ a dx fs, v = .ref a ∧ H a = some (.ins (g.cl c) dx fs) ∧ fs.lookup mn = none := by
  obtain ⟨p, h1, h2⟩ := Option.bind_eq_some_iff.mp h
  obtain ⟨a, dx, fs, e, h3, h4, _⟩ := s.insF r h1
  refine ⟨a, dx, fs, e, h3, lookup_none ?_⟩
  rw [h4]
  intro hm
  rw [if_pos hm] at h2; cases h2
theorem fe_meth1 [Kd] {c mn : Str} {o : Expr} {mo : Env → M Ex D} {pl : Sem Bool} {apos : Pos} (C : Cal g X.prog X.w X.K X.mg X.base k f ks m) (hM : MonoF m) (hr : Room k X.A) (tk : Takes X W) (hK : X.K = g.K) (hc : Cls g.K (g.cl c)) (hm : Meth g.K (g.cl c) mn f)
    (ho : FE g X W o mo) (ha : FA g X W (e :: es) a) (hkw : FK g X W kws kk)
    (hall : (backToKw pos (keywordEach kws X.env)).all (·.1.isSome) = true := by rfl) (hks : (backToKw pos (keywordEach kws X.env)).filterMap (·.1) = ks := by rfl)
    (he : starEach (e :: es) X.env = (false, eval e X.env) :: starEach es X.env := by rfl) (hpl : ((backTo pos (starEach (e :: es) X.env)).any (·.1) || (backToKw pos (keywordEach kws X.env)).any (·.1.isNone)) = false := by rfl)
    (ht : eval (.Call (.Attribute o mn apos) (e :: es) kws pos) X.env = (do
      let ov ← eval o X.env
      standAt apos.atName
      let (f, first) ← holding [ov] (getMethod ov mn pl)
      callWith pos f first (backTo pos (starEach (e :: es) X.env)) (backToKw pos (keywordEach kws X.env))) := by rfl) :
    FE g X W (.Call (.Attribute o mn apos) (e :: es) kws pos) (methE c mn m mo a kk) := by
  refine ⟨⟨fun pins s σ H Q I ⟨Z, F, st, ρ, E, N, q⟩ => ?_⟩, fun ρ => mono_bind (ho.mono ρ) fun x => mono_bind (mono_see _) fun _ => mono_callE (hM.cons x) ha.mono hkw.mono ρ⟩
  rw [← hK] at hc hm
  refine PySem.W.methodCall_KW (pl := pl) (thn (ho.pe.run pins s σ H _ I (tX.go (R1 := RelD g) (P := fun v H1 => ∃ F st x, Now g W Z σ H1 F ρ st E ∧ RelD g F x v ∧ DL.insOk c mn x st = some () ∧ callE (fun ds es => m (x :: ds) es) a kk ρ st (Res g (RelD g) Z F Q) (fun x s => E x ρ s)) N (ho.mono ρ) (fun x => mono_bind (mono_see _) fun _ => mono_callE (hM.cons x) ha.mono hkw.mono ρ) q fun x v F st H1 e1 N r q => ?_)) fun u s1 ⟨v, H1, I1, rv, F, st, x, N, r, hi, q⟩ => ?_) ht
  · obtain ⟨_, hi, q⟩ := q
    exact ⟨F, st, x, N, r, hi, q⟩
  · obtain ⟨b, dx, fs, rfl, hb, hl⟩ := N.sim.insOk r hi
    obtain rfl : u = Value.ref b := rv
    refine getmeth_ok I1 hb hc hm hl ?_
    refine PySem.W.callWith_KW (first := [.ref b]) (h₀ := X.base) I.ok.mod.kin hm.kp hall (thn (ha.pa.run pos pins s1 σ H1 _ I1 (callGoX hM ha hkw N r q)) fun us s2 ⟨vs, H2, I2, r2, q2⟩ => ?_) hpl he
    refine thn (hkw.pk.run pos pins s2 σ H2 _ I2 q2) fun ws s3 ⟨zs, H3, I3, rz, q3⟩ => ⟨I3.kIn, ?_⟩
    rw [hks]
    exact run_cal (us := .ref b :: us) (vs := .ref b :: vs) C hr tk I3 (.cons rfl r2) rz q3
theorem fe_meth0 [Kd] {c mn : Str} {o : Expr} {mo : Env → M Ex D} {pl : Sem Bool} {apos : Pos} (C : Cal g X.prog X.w X.K X.mg X.base k f ks m) (hM : MonoF m) (hr : Room k X.A) (tk : Takes X W) (hK : X.K = g.K) (hc : Cls g.K (g.cl c)) (hm : Meth g.K (g.cl c) mn f)
    (ho : FE g X W o mo) (hkw : FK g X W kws kk)
    (hall : (backToKw pos (keywordEach kws X.env)).all (·.1.isSome) = true := by rfl) (hks : (backToKw pos (keywordEach kws X.env)).filterMap (·.1) = ks := by rfl)
    (hpl : ((backTo pos (starEach [] X.env)).any (·.1) || (backToKw pos (keywordEach kws X.env)).any (·.1.isNone)) = false := by rfl)
    (ht : eval (.Call (.Attribute o mn apos) [] kws pos) X.env = (do
      let ov ← eval o X.env
      standAt apos.atName
      let (f, first) ← holding [ov] (getMethod ov mn pl)
      callWith pos f first (backTo pos (starEach [] X.env)) (backToKw pos (keywordEach kws X.env))) := by rfl) :
    FE g X W (.Call (.Attribute o mn apos) [] kws pos) (methE c mn m mo argsN kk) := by
  refine ⟨⟨fun pins s σ H Q I ⟨Z, F, st, ρ, E, N, q⟩ => ?_⟩, fun ρ => mono_bind (ho.mono ρ) fun x => mono_bind (mono_see _) fun _ => mono_callE (hM.cons x) (fun _ => mono_pure _) hkw.mono ρ⟩
  rw [← hK] at hc hm
  refine PySem.W.methodCall_KW (pl := pl) (thn (ho.pe.run pins s σ H _ I (tX.go (R1 := RelD g) (P := fun v H1 => ∃ F st x, Now g W Z σ H1 F ρ st E ∧ RelD g F x v ∧ DL.insOk c mn x st = some () ∧ callE (fun ds es => m (x :: ds) es) argsN kk ρ st (Res g (RelD g) Z F Q) (fun x s => E x ρ s)) N (ho.mono ρ) (fun x => mono_bind (mono_see _) fun _ => mono_callE (hM.cons x) (fun _ => mono_pure _) hkw.mono ρ) q fun x v F st H1 e1 N r q => ?_)) fun u s1 ⟨v, H1, I1, rv, F, st, x, N, r, hi, q⟩ => ?_) ht
  · obtain ⟨_, hi, q⟩ := q
    exact ⟨F, st, x, N, r, hi, q⟩
  · obtain ⟨b, dx, fs, rfl, hb, hl⟩ := N.sim.insOk r hi
    obtain rfl : u = Value.ref b := rv
    refine getmeth_ok I1 hb hc hm hl ?_
    refine PySem.W.callWith_KW0 (first := [.ref b]) (h₀ := X.base) I.ok.mod.kin hm.kp hall ?_ hpl
    refine thn (hkw.pk.run pos pins s1 σ H1 _ I1 (kwGo hM hkw N (ds := [x]) (vs := [.ref b]) (.one r) q)) fun ws s2 ⟨zs, H2, I2, rz, q2⟩ => ⟨I2.kIn, ?_⟩
    rw [hks]
    exact run_cal (us := [.ref b]) (vs := [.ref b]) C hr tk I2 (.cons rfl .nil) rz q2
end DL

/-! ### new instances, classes, builtins -/
namespace DL
open PySem L2
variable {g : G} {Z F F' H H' : Hp} {W : WX} {σ : St} {ρ : Env} {st : S} {α β γ δ : Type} {X : Cx} {e e1 e2 e3 : Expr} {pos : Pos}
variable {k : Nat} {f : Addr} {ks : List Str} {m : Fn} {x : Str} {p : Pos} {es : List Expr} {kws : List Keyword} {a kk : Env → M Ex (List D)}
theorem run_mk [Kd] {C : Addr} {pins : List (Addr × Obj)} {s : Shared} {Q : VK} {us ws : List Value} {vs zs : List V} (Mk : Mk X.K C f) (Ca : Cal g X.prog X.w X.K X.mg X.base k f ks m) (hr : Room (k + 1) X.A) (tk : Takes X W) (I : Inv X pins σ H s) (r : Vals vs us) (rz : Vals zs ws)
    (h : ∀ x dx, H x = none → H dx = none → dx ≠ x → spK g m (.ref x :: vs) zs (upd (upd H dx (.own x)) x (.ins C dx [])) (fun v H2 => v = .non ∧ Q (.ref x) H2) (WE W σ)) :
    wpAny (model X.prog X.w) X.A (call (.ref C) us (ks.zip ws)) (EP X pins σ Q) X.xe s := by
  have hq := h (s.heap.objs.size + 1) s.heap.objs.size (I.hok.fresh (Nat.le_succ _)) (I.hok.fresh (Nat.le_refl _)) (Nat.ne_of_lt (Nat.lt_succ_self _))
  have I2 := Inv.made (C := C) I
  have r1 : Vals (V.ref (s.heap.objs.size + 1) :: vs) (Value.ref (s.heap.objs.size + 1) :: us) := .cons rfl r
  refine wpAny_call (make_map (f := f) I.kIn Mk.makes Mk.init (beq_iff_eq.mp Mk.fn) (codeAny_mono (Ca _ X.stack _ _ (Value.ref (s.heap.objs.size + 1) :: us) ws _ _ _ (WE W σ) (hr.make C us (ks.zip ws))
    (I2.env0.make C us (ks.zip ws)) r1 rz hq) fun r s' hq' => ?_))
  cases r with
  | error e => exact passAt tk σ pins _ _ e s' I2 hq'
  | ok fl =>
    cases fl with
    | ret u =>
      obtain ⟨v, H', I3, rv, ev, q3⟩ := I2.after hq'
      subst ev
      exact ⟨rv, ⟨V.ref (s.heap.objs.size + 1), H', I3, rfl, q3⟩⟩
    | next => exact False.elim hq'
    | brk => exact False.elim hq'
    | cont => exact False.elim hq'
def asN : D → M Ex Unit
  | .non => pureM ()
  | _ => failM
theorem mono_asN (d : D) : Mono (asN d) := by cases d <;> first | exact mono_pure _ | exact mono_fail
theorem asN_inv {d : D} {Q : Unit → S → Prop} {E : Ex → S → Prop} (h : asN d st Q E) : d = .non ∧ Q () st := by
  cases d with
  | non => exact ⟨rfl, h⟩
  | _ => exact h.elim
/-- what becomes of the new instance: it stays a place, or it never changes -/
def stay : D → M Ex D := pureM
def mkM (c : Str) (m : Fn) (fin : D → M Ex D) : Fn := fun ds es => bindM (newM (.ins c [])) fun x => bindM (m (x :: ds) es) fun r => bindM (asN r) fun _ => fin x
structure Fin (g : G) (fin : D → M Ex D) : Prop where
  mono : ∀ d, Mono (fin d)
  ok : ∀ {Z F H : Hp} {st : S} {a : Addr} {Q : VK} {E : Ex → S → Prop}, Sim g Z st F H → fin (.ref a) st (Res g (RelD g) Z F Q) E → Q (.ref a) H
theorem fin_stay : Fin g stay := ⟨fun _ => mono_pure _, fun sim q => q _ _ _ (Same.refl _) sim relD_ref⟩
theorem fin_freeze : Fin g freeze := ⟨mono_freeze, fun sim ⟨a, o, x, e, h1, h2, q⟩ => by
  cases e
  obtain ⟨F', s, sim', r⟩ := sim.freeze h1 h2
  exact q _ _ _ s sim' r⟩
theorem mono_mkM {c : Str} {fin : D → M Ex D} (hM : MonoF m) (hf : ∀ d, Mono (fin d)) : MonoF (mkM c m fin) := fun ds es => mono_bind mono_new fun x => mono_bind (hM _ _) fun r => mono_bind (mono_asN r) fun _ => hf x
/-- the promise of C(..) from that of __init__ -/
theorem mkGo {c : Str} {fin : D → M Ex D} {Q : VK} {E : XK} {vs zs : List V} {y dx : Addr} (hM : MonoF m) (hf : Fin g fin) (h : spK g (mkM c m fin) vs zs H Q E) (n1 : H y = none) (n2 : H dx = none) (n3 : dx ≠ y) :
    spK g m (.ref y :: vs) zs (upd (upd H dx (.own y)) y (.ins (g.cl c) dx [])) (fun v H2 => v = .non ∧ Q (.ref y) H2) E := by
  obtain ⟨Z, F, st, ds, es, sim, r1, r2, q⟩ := h
  have sim1 := sim.junk (o := .own y) n2
  have n1' : upd H dx (.own y) y = none := none_upd (Ne.symm n3) n1
  obtain ⟨nF, nS⟩ := sim.free n1
  have sim2 : Sim g Z (st.set y (.ins c [])) F (upd (upd H dx (.own y)) y (.ins (g.cl c) dx [])) := sim1.put nF (.inl n1') ⟨dx, [], upd_same, rfl, .nil⟩
  refine ⟨Z, F, st.set y (.ins c []), .ref y :: ds, es, sim2, .cons relD_ref r1, r2, hM _ _ _ _ _ _ _ (fun r s k v F' H' e sim r => ?_) (fun _ _ z => z) (q y nS)⟩
  obtain ⟨rfl, k⟩ := asN_inv k
  unfold RelD at r
  refine ⟨r, hf.ok sim (hf.mono _ _ _ _ _ _ (fun _ _ z => z.mono e) (fun _ _ z => z) k)⟩
theorem fe_make1 [Kd] {c : Str} {fin : D → M Ex D} (hf : Fin g fin) (Mk : Mk X.K (g.cl c) f) (C : Cal g X.prog X.w X.K X.mg X.base k f ks m) (hM : MonoF m) (hr : Room (k + 1) X.A) (tk : Takes X W) (hg : Gl X x) (hm : X.mg x = some (.ref (g.cl c))) (ha : FA g X W (e :: es) a) (hkw : FK g X W kws kk)
    (hall : (backToKw pos (keywordEach kws X.env)).all (·.1.isSome) = true := by rfl) (hks : (backToKw pos (keywordEach kws X.env)).filterMap (·.1) = ks := by rfl) (hdb : (x == ("__debug__" : Str)) = false := by decide)
    (he : starEach (e :: es) X.env = (false, eval e X.env) :: starEach es X.env := by rfl) (hpl : ((backTo pos (starEach (e :: es) X.env)).any (·.1) || (backToKw pos (keywordEach kws X.env)).any (·.1.isNone)) = false := by rfl) :
    FE g X W (.Call (.Name x p) (e :: es) kws pos) (callE (mkM c m fin) a kk) := by
  have hM2 := mono_mkM (c := c) hM hf.mono
  refine ⟨⟨fun pins s σ H Q I ⟨Z, F, st, ρ, E, N, q⟩ => ?_⟩, mono_callE hM2 ha.mono hkw.mono⟩
  refine wpAny_Call_Name_kw (ld_glob I hg hm ?_ hdb)
  refine PySem.W.callWith_KW (h₀ := X.base) I.ok.mod.kin Mk.kp hall (thn (ha.pa.run pos pins s σ H _ I (callGo hM2 ha hkw N q)) fun us s1 ⟨vs, H1, I1, r, q⟩ => ?_) hpl he
  refine thn (hkw.pk.run pos pins s1 σ H1 _ I1 q) fun ws s2 ⟨zs, H2, I2, rz, q2⟩ => ⟨I2.kIn, ?_⟩
  rw [hks]
  exact run_mk Mk C hr tk I2 r rz fun y dx n1 n2 n3 => mkGo hM hf q2 n1 n2 n3
theorem fe_make0 [Kd] {c : Str} {fin : D → M Ex D} (hf : Fin g fin) (Mk : Mk X.K (g.cl c) f) (C : Cal g X.prog X.w X.K X.mg X.base k f ks m) (hM : MonoF m) (hr : Room (k + 1) X.A) (tk : Takes X W) (hg : Gl X x) (hm : X.mg x = some (.ref (g.cl c))) (hkw : FK g X W kws kk)
    (hall : (backToKw pos (keywordEach kws X.env)).all (·.1.isSome) = true := by rfl) (hks : (backToKw pos (keywordEach kws X.env)).filterMap (·.1) = ks := by rfl) (hdb : (x == ("__debug__" : Str)) = false := by decide)
    (hpl : ((backTo pos (starEach [] X.env)).any (·.1) || (backToKw pos (keywordEach kws X.env)).any (·.1.isNone)) = false := by rfl) :
    FE g X W (.Call (.Name x p) [] kws pos) (callE (mkM c m fin) argsN kk) := by
  have hM2 := mono_mkM (c := c) hM hf.mono
  refine ⟨⟨fun pins s σ H Q I ⟨Z, F, st, ρ, E, N, q⟩ => ?_⟩, mono_callE hM2 (fun _ => mono_pure _) hkw.mono⟩
  refine wpAny_Call_Name_kw (ld_glob I hg hm ?_ hdb)
  refine PySem.W.callWith_KW0 (h₀ := X.base) I.ok.mod.kin Mk.kp hall ?_ hpl
  refine thn (hkw.pk.run pos pins s σ H _ I (kwGo hM2 hkw N (ds := []) .nil q)) fun ws s2 ⟨zs, H2, I2, rz, q2⟩ => ⟨I2.kIn, ?_⟩
  rw [hks]
  exact run_mk (vs := []) (us := []) Mk C hr tk I2 .nil rz fun y dx n1 n2 n3 => mkGo hM hf q2 n1 n2 n3
/-- cls(e, .., k = v): the class in a slot -/
theorem fe_makeL1 [Kd] {c : Str} {i : Nat} {fin : D → M Ex D} (hf : Fin g fin) (Mk : Mk X.K (g.cl c) f) (C : Cal g X.prog X.w X.K X.mg X.base k f ks m) (hM : MonoF m) (hr : Room (k + 1) X.A) (tk : Takes X W) (hN : X.N[i]? = some x) (hv : Vis X.env.scope x) (ha : FA g X W (e :: es) a) (hkw : FK g X W kws kk)
    (hall : (backToKw pos (keywordEach kws X.env)).all (·.1.isSome) = true := by rfl) (hks : (backToKw pos (keywordEach kws X.env)).filterMap (·.1) = ks := by rfl) (hdb : (x == ("__debug__" : Str)) = false := by decide) (hcd : (x == ("__classdict__" : Str)) = false := by decide)
    (he : starEach (e :: es) X.env = (false, eval e X.env) :: starEach es X.env := by rfl) (hpl : ((backTo pos (starEach (e :: es) X.env)).any (·.1) || (backToKw pos (keywordEach kws X.env)).any (·.1.isNone)) = false := by rfl) :
    FE g X W (.Call (.Name x p) (e :: es) kws pos) (fun ρ => bindM (needM (ρ[i]? = some (some (.cls c)))) fun _ => callE (mkM c m fin) a kk ρ) := by
  have hM2 := mono_mkM (c := c) hM hf.mono
  refine ⟨⟨fun pins s σ H Q I ⟨Z, F, st, ρ, E, N, hi, q⟩ => ?_⟩, fun ρ => mono_bind (mono_need _) fun _ => mono_callE hM2 ha.mono hkw.mono ρ⟩
  obtain ⟨v, e', rv⟩ := N.env.2 i _ hi
  unfold RelD at rv
  subst rv
  refine wpAny_Call_Name_kw (thn ((pe_var (pos := p) hN hv hdb hcd).run pins s σ H (fun v H' => v = .ref (g.cl c) ∧ H' = H) I ⟨_, e', rfl, rfl⟩) fun u s0 ⟨v, H0, I0, rv, ev, eH⟩ => ?_)
  subst ev
  subst eH
  cases (show u = Value.ref (g.cl c) from rv)
  refine PySem.W.callWith_KW (h₀ := X.base) I0.ok.mod.kin Mk.kp hall (thn (ha.pa.run pos pins s0 σ H0 _ I0 (callGo hM2 ha hkw N q)) fun us s1 ⟨vs, H1, I1, r, q⟩ => ?_) hpl he
  refine thn (hkw.pk.run pos pins s1 σ H1 _ I1 q) fun ws s2 ⟨zs, H2, I2, rz, q2⟩ => ⟨I2.kIn, ?_⟩
  rw [hks]
  exact run_mk Mk C hr tk I2 r rz fun y dx n1 n2 n3 => mkGo hM hf q2 n1 n2 n3
/-! ### classes -/
theorem fe_cval {c fl : Str} {d : D} {mc u : Value} {v : V} (hK : X.K = g.K) (hr : ClX.CRead g.K (g.cl c) mc) (hv : ClX.CVal g.K (g.cl c) mc fl v u) (r : ∀ F, RelD g F d v) (h : PE X e (tC (.ref (g.cl c)))) (hb : attributeBase e fl X.env (eval e X.env) = eval e X.env := by rfl) : FE g X W (.Attribute e fl pos) (cst d) :=
  ⟨PE.imp (ClX.pe_cval h hb) fun σ H Q ⟨Z, F, st, ρ, E, N, q⟩ => by
    rw [hK]
    exact ⟨_, mc, v, u, rfl, hr, hv, tX.done N (r F) q⟩, fun _ => mono_pure _⟩
/-- C.m(e, ..), a classmethod -/
theorem fe_cmeth [Kd] {c mn : Str} {mc : Value} {pp : Addr} {o : Expr} {pl : Sem Bool} {apos : Pos} (C : Cal g X.prog X.w X.K X.mg X.base k f [] m) (hM : MonoF m) (hr : Room k X.A) (tk : Takes X W) (ho : PE X o (tC (.ref (g.cl c)))) (hR : ClX.CRead X.K (g.cl c) mc) (hC : ClX.CMet X.K (g.cl c) mc mn pp f) (ha : FA g X W (e :: es) a)
    (hst : starEach (e :: es) X.env = (false, eval e X.env) :: starEach es X.env := by rfl) (hpl : (backTo pos (starEach es X.env)).any (·.1) = false := by rfl)
    (ht : eval (.Call (.Attribute o mn apos) (e :: es) [] pos) X.env = (do
      let ov ← eval o X.env
      standAt apos.atName
      let (f, first) ← holding [ov] (getMethod ov mn pl)
      callWith pos f first (backTo pos (starEach (e :: es) X.env)) (backToKw pos (keywordEach [] X.env))) := by rfl) :
    FE g X W (.Call (.Attribute o mn apos) (e :: es) [] pos) (callE (fun ds es => m (.cls c :: ds) es) a argsN) := by
  have hM2 := hM.cons (.cls c)
  refine ⟨⟨fun pins s σ H Q I ⟨Z, F, st, ρ, E, N, q⟩ => ?_⟩, mono_callE hM2 ha.mono fun _ => mono_pure _⟩
  refine PySem.W.methodCall_KW (pl := pl) (thn (ho.run pins s σ H (fun v H' => v = .ref (g.cl c) ∧ H' = H) I ⟨rfl, rfl⟩) fun u s1 ⟨v, H1, I1, rx, ex, eh⟩ => ?_) ht
  subst ex
  subst eh
  obtain rfl : u = Value.ref (g.cl c) := rx
  refine ClX.getmethcm_ok I1 hR hC fun s2 I2 => ?_
  refine ClX.callwith_cm I2 (ClX.base_none I1 (Nat.le_refl _)) hC.fi (thn (ha.pa.run pos _ s2 σ H1 _ I2 (callGoX hM ha fk_nil N relD_cls q)) fun us s3 ⟨vs, H2, I3, rv, q2⟩ => ⟨⟨ClX.pin_at I3, I3.kIn⟩, ?_⟩) hst hpl
  have q3 : spK g m (.ref (g.cl c) :: vs) [] H2 Q (WE W σ) := by
    obtain ⟨Z, F, st, ρ, E, N, q⟩ := q2
    exact q [] F H2 (Same.refl _) N.sim .nil
  have z : wpAny (model X.prog X.w) X.A (call (.ref s1.heap.objs.size) us) (EP X ((s1.heap.objs.size, PySem.W.methodObj (.ref f) (.ref (g.cl c))) :: pins) σ Q) X.xe s3 :=
    wpAny_call (PySem.W.method_call (ClX.pin_at I3) (code_cal (us := .ref (g.cl c) :: us) (ws := []) (vs := .ref (g.cl c) :: vs) C hr tk I3 (.cons rfl rv) .nil q3))
  exact thn z fun _ _ y => ClX.unpinE y
end DL

/-! ### enumerate over tuples -/
namespace DL
open PySem L2
/-! ### for i, x in enumerate(t), t a tuple -/
section
open PySem.W
set_option maxHeartbeats 2000000 in
theorem meets_enum1 {v : Value} {o : Obj} {H : Heap → Prop} (B : Begins v o H) :
    Meets (Builtin.«enumerate.__new__» ⟨[.type "enumerate", v], []⟩) (fun _ R s => H s.heap ∧
      R (.ok (.ret (.ref (s.heap.push o).objs.size))) { s with heap := (s.heap.push o).push { cls := .type "enumerate", data := .fields #[.none, .bool false, .ref s.heap.objs.size, rawInt 0, .none, .none] } }) :=
  .of_wp fun prog w A R s h => by
    obtain ⟨hp, g, d, tk, os⟩ := s; obtain ⟨h1, h⟩ := h
    have hsub := sub_enumerate
    have q1 : ∀ {A' : Around} {E : Value → Shared → Prop} {Q : Value → Shared → Prop}, Q (.ref hp.objs.size) ⟨hp.push o, g, d, tk, os⟩ → wpAny (model prog w) A' (pyIter v) Q E ⟨hp, g, d, tk, os⟩ :=
      fun q => B.iter prog w _ _ ⟨hp, g, d, tk, os⟩ _ h1 q
    wp_walk using q1
    refine wpAny_stack_any fun st => wpAny_pure ?_
    split
    · rename_i c _ _ _ _ _
      cases (c == Value.type "enumerate")
      · wp_walk using q1
        exact ⟨_, rfl, h⟩
      · wp_walk using q1
        exact ⟨_, rfl, h⟩
    · wp_walk using q1
      exact ⟨_, rfl, h⟩
theorem call_enum1 {prog : Program} {w : World} {A : Around} {E : Value → Shared → Prop} {s : Shared} {v : Value} {o : Obj} {H : Heap → Prop} {Q : Value → Shared → Prop} (B : Begins v o H) (h1 : H s.heap)
    (h : ∀ h', IsEnum h' (s.heap.objs.size + 1) s.heap.objs.size 0 .none → h'.get? s.heap.objs.size = some o → h'.objs.size = s.heap.objs.size + 2 →
      (∀ b o, s.heap.get? b = some o → h'.get? b = some o) → Q (.ref (s.heap.objs.size + 1)) { s with heap := h' }) :
    wpAny (model prog w) A (call (.type "enumerate") [v]) Q E s := by
  refine callType_new F.called_enumerate (by decide) (F.typeCall_enumerate_1 _) (F.newCall_enumerate_1 _) (fun obj => F.args_object_init_2 obj _) F.entry_enumerate_new
    (meets_enum1 B) ⟨h1, ?_⟩
  have hz : (s.heap.push o).objs.size = s.heap.objs.size + 1 := Heap.size_push ..
  show _ ∧ _
  rw [hz]
  have he : IsEnum ((s.heap.push o).push { cls := .type "enumerate", data := .fields #[.none, .bool false, .ref s.heap.objs.size, rawInt 0, .none, .none] }) (s.heap.objs.size + 1) s.heap.objs.size 0 .none := by
    have := Heap.get?_push_size (s.heap.push o) (o := { cls := .type "enumerate", data := .fields #[.none, .bool false, .ref s.heap.objs.size, rawInt 0, .none, .none] }) rfl
    rw [hz] at this; exact this
  exact ⟨⟨_, he, rfl⟩, h _ he (Heap.get?_push_of_some _ (Heap.get?_push_size _ B.free)) (by rw [Heap.size_push, hz]) fun b o x => Heap.get?_push_of_some _ (Heap.get?_push_of_some _ x)⟩
end
def IteT (K : PySem.W.Frag) (a : Addr) : It :=
  ⟨fun i H => ∃ (xs : List V) (x : V), SqT K H a xs ∧ xs[i]? = some x, fun i H v H' => ∃ T x, v = .ref T ∧ H T = none ∧ H' = upd H T (.tup [.int (i : Nat), x]) ∧ ∀ xs, SqT K H a xs → xs[i]? = some x, fun i H => ∃ xs : List V, SqT K H a xs ∧ xs.length = i⟩
theorem turn_enumT {P : Program} {w : World} {K : PySem.W.Frag} {elts : List Expr} {kk : Nat} {tpos : Pos} (a e it : Addr) :
    Turn P w K (.Tuple elts kk tpos) (IteT K a) [e, it] e (fun i h => (∃ old, IsEnum h e it ((i : Nat) : Int) old) ∧ h.IsTupleIter it a i ∧ e ≠ it ∧ a ≠ it ∧ a ≠ e) where
  mem := by simp
  obj := fun i h st b hb => by
    obtain ⟨⟨old, he⟩, ⟨o, ho, hc, hd⟩, _⟩ := st
    have e' : b = e ∨ b = it := by simpa using hb
    rcases e' with z | z
    · rw [z]; exact ⟨_, he, fun v q => nomatch q⟩
    · rw [z]; exact ⟨o, ho, fun v q => by rw [hd] at q; cases q⟩
  keep := fun i h h' st k => let ⟨⟨old, he⟩, hi, hne, h1, h2⟩ := st; ⟨⟨old, k e (by simp) _ he⟩, hi.at fun o q => k it (by simp) o q, hne, h1, h2⟩
  item := by
    intro X hP hw hK hc i pins s σ H E I hf st hg
    subst hP hw hK
    obtain ⟨⟨old, he⟩, hit, hne, ha1, ha2⟩ := st
    obtain ⟨xs, x, hq, hx⟩ := hg
    obtain ⟨its, rv, p, hz⟩ := I.tuple hq
    obtain ⟨u, hu, ru⟩ := rv.get hx
    have hel : e < s.heap.objs.size := Heap.lt_size he
    have hil : it < s.heap.objs.size := by obtain ⟨_, q, _⟩ := hit; exact Heap.lt_size q
    have hlt : i < its.toArray.size := by
      have := (List.getElem?_eq_some_iff.mp hu).1
      simpa using this
    refine wpAny_pyNext_enum_itemD (Draws.tuple (A := X.A.in1) (I.ok.hd hc) it a ha1 its.toArray) he ⟨hit, p⟩ hlt hne (by simp [hne, Ne.symm ha2]) fun y h' tk hy ho hst hT hsz hk => ?_
    obtain rfl : y = u := by
      have h2 : its.toArray[i]? = some u := by simpa using hu
      exact Option.some.inj (hy.symm.trans h2)
    obtain ⟨hit', p'⟩ := hst
    refine ⟨_, rfl, wpAny_letOwnedTupleGo_enum (s := { s with heap := h', toks := tk + 1 }) ho fun h'' he' sb => ?_⟩
    have hT2 : h''.get? s.heap.objs.size = some { cls := .type "tuple", data := .seq #[.int i tk, y] } := (sb.2 _ (Nat.ne_of_gt hel)).trans hT
    have new : ObjOk X.prog X.w (upd H s.heap.objs.size (.tup [.int (i : Nat), x])) h'' s.heap.objs.size (.tup [.int (i : Nat), x]) :=
      ⟨by show 2 ≤ sizeLine; decide, [.int i tk, y], .cons ⟨_, rfl⟩ (.cons ru .nil), ⟨_, hT2, rfl, _, rfl⟩⟩
    have I1 : Inv X pins σ (upd H s.heap.objs.size (.tup [.int (i : Nat), x])) { s with heap := h'', toks := tk + 1 } :=
      I.turnedNew (ch := [e, it]) (fun b ob hb q => (sb.2 b (fun z => hb (by simp [z]))).trans (hk b ob (fun z => hb (by simp [z])) (fun z => hb (by simp [z])) q)) hf (Nat.le_refl _) new
    refine ⟨.ref s.heap.objs.size, _, I1, rfl, ⟨_, x, rfl, I.hok.fresh (Nat.le_refl _), rfl, fun ys hy => by rw [I.tuple_inj hy hq]; exact hx⟩, ⟨⟨y, ?_⟩, hit'.at fun o q => (sb.2 it (Ne.symm hne)).trans q, hne, ha1, ha2⟩, fun b hb => ?_⟩
    · have e1 : ((i + 1 : Nat) : Int) = (i : Int) + 1 := by omega
      rw [e1]; exact he'
    · have hb' : b < s.heap.objs.size := by
        have e' : b = e ∨ b = it := by simpa using hb
        rcases e' with z | z
        · rw [z]; exact hel
        · rw [z]; exact hil
      rw [upd_ne (Nat.ne_of_lt hb')]
      exact (hf b hb).1
  done := by
    intro X hP hw hK hc i pins s σ H E I hf st hg
    subst hP hw hK
    obtain ⟨⟨old, he⟩, hit, hne, ha1, ha2⟩ := st
    obtain ⟨xs, hq, hx⟩ := hg
    obtain ⟨its, rv, p, hz⟩ := I.tuple hq
    obtain ⟨f0, f1, f2, f3, f4, f5⟩ := hf it (by simp)
    have hl : its.toArray.size = i := by rw [List.size_toArray, ← rv.length, hx]
    subst hl
    exact wpAny_pyNext_enum_endD (Draws.tuple (A := X.A.in1) (I.ok.hd hc) it a ha1 its.toArray) he ⟨hit, p⟩ fun h' eb => ⟨rfl, I.turned (t' := s.toks) (fun b o hb q => eb b o hb q) f0 f1 f3 f4 f5⟩
  self := fun A i s Q E st h => let ⟨⟨_, he⟩, _⟩ := st; wpAny_pyIter_enum he h
def iEnumT (K : PySem.W.Frag) (ta : TA) : TI := fun σ H R => ta σ H fun vs H1 => ∃ a xs, vs = [.ref a] ∧ SqT K H1 a xs ∧ R (IteT K a) H1
theorem pi_enumT {X : Cx} {e : Expr} {ta : TA} {p pos tpos : Pos} {elts : List Expr} {kk : Nat} (hg : Gl X "enumerate") (hm : X.mg "enumerate" = none) (ha : PA X [e] ta) (hs : starEach [e] X.env = [(false, eval e X.env)] := by rfl) :
    PI X (.Tuple elts kk tpos) (.Call (.Name "enumerate" p) [e] [] pos) (iEnumT X.K ta) := by
  refine ⟨fun pins s σ H R I h => ?_⟩
  refine PyProof.Rows.Call_ (ld_blt I hg hm PyProof.Rows.boot_enumerate (PyProof.Rows.callWith_type1 (thn (ha.run pos pins s σ H _ I h) fun us s1 ⟨vs, H1, I1, r1, q1⟩ => ?_) hs rfl))
  obtain ⟨a, xs, ex, hq, q⟩ := q1
  subst ex
  cases r1 with
  | cons r rr =>
    cases rr
    cases r
    obtain ⟨its, rv, p', hz⟩ := I1.tuple hq
    have hal : a < s1.heap.objs.size := by obtain ⟨_, q, _⟩ := p'; exact Heap.lt_size q
    refine call_enum1 (begins_tuple a its.toArray) p' fun h' he hit hsz hk => wpAny_pyIter_enum he ?_
    have I2 : Inv X pins σ H1 { s1 with heap := h' } := I1.kept (t' := s1.toks) hk
    refine ⟨s1.heap.objs.size + 1, [s1.heap.objs.size + 1, s1.heap.objs.size], _, _, H1, rfl, I2, turn_enumT a (s1.heap.objs.size + 1) s1.heap.objs.size, ⟨⟨.none, he⟩, ⟨_, hit, rfl, rfl⟩, Nat.succ_ne_self _, Nat.ne_of_lt hal, Nat.ne_of_lt (Nat.lt_succ_of_lt hal)⟩, fun b hb => ?_, q⟩
    have e' : b = s1.heap.objs.size + 1 ∨ b = s1.heap.objs.size := by simpa using hb
    have hle : s1.heap.objs.size ≤ b := by
      rcases e' with z | z
      · rw [z]; exact Nat.le_add_right _ _
      · rw [z]; exact Nat.le_refl _
    exact I1.fpOk hle (I1.hok.fresh hle)
theorem walk_enumT {K : PySem.W.Frag} {a : Addr} {xs : List V} : Walk (IteT K a) xs.length (fun H => SqT K H a xs) (YPair (fun i => some (.int (i : Nat))) (fun i => xs[i]?)) := by
  refine ⟨fun i _ hi q => ⟨xs, xs[i], q, by simp [hi]⟩, fun _ q => ⟨xs, q, rfl⟩, fun i H v H' _ q y => ?_⟩
  obtain ⟨T, x, h1, h2, h3, h4⟩ := y
  exact ⟨T, .int (i : Nat), x, h1, h2, h3, rfl, h4 xs q⟩
end DL

/-! ### walks, comprehensions -/
namespace DL
open PySem L2
variable {g : G} {Z F F' H H' : Hp} {W : WX} {σ : St} {ρ : Env} {st : S} {α β γ δ : Type} {X : Cx} {e e1 e2 e3 tg : Expr} {pos : Pos}
def lstOf (st : S) : D → Option (List D)
  | .lst xs => some xs
  | .ref a => obL (st.map a)
  | _ => none
def tupOf : D → Option (List D)
  | .tup xs => some xs
  | _ => none
/-- what must stand while d is walked -/
def srcP (d : D) (xs : List D) : S → Prop := match d with
  | .ref a => fun s => obL (s.map a) = some xs
  | _ => fun _ => True
/-- a list's address, and its values while it stands -/
theorem Sim.lstOf {d : D} {v : V} {xs : List D} (sim : Sim g Z st F H) (r : RelD g F d v) (h : DL.lstOf st d = some xs) : ∃ a, v = .ref a ∧ ∀ Z' F' H' st', Same F F' → Sim g Z' st' F' H' → srcP d xs st' → ∃ vs, SqL g.K H' a vs ∧ RelDs g F' xs vs := by
  cases d with
  | lst ds =>
    cases (Option.some.inj h)
    unfold RelD at r
    obtain ⟨a, vs, rfl, h1, h2⟩ := r
    exact ⟨a, rfl, fun Z' F' H' st' e s _ => ⟨vs, SqL.of (s.same _ _ (e _ _ h1)), h2.mono e⟩⟩
  | ref a =>
    unfold RelD at r
    subst r
    refine ⟨a, rfl, fun Z' F' H' st' e s p => ?_⟩
    obtain ⟨vs, h1, h2⟩ := s.lst (show obL (st'.map a) = some xs from p)
    exact ⟨vs, SqL.of h1, h2⟩
  | _ => cases h
theorem srcP_now {d : D} {xs : List D} (h : DL.lstOf st d = some xs) : srcP d xs st := by
  cases d with
  | lst ds => exact trivial
  | ref a => exact h
  | _ => cases h
/-- a walk whose values are fixed by what stands -/
theorem walkD_of {J : It} {items : List D} {P : S → Prop} {G : Hp → List V → Prop} (hl : items.length ≤ sizeLine) (hG : ∀ Z' F' H' st', Same F F' → Sim g Z' st' F' H' → P st' → ∃ vs, G H' vs ∧ RelDs g F' items vs)
    (go : ∀ H vs i, G H vs → i < vs.length → J.go i H) (stop : ∀ H vs, G H vs → J.stop vs.length H) (yld : ∀ H vs i v H', G H vs → i < vs.length → J.yld i H v H' → H' = H ∧ vs[i]? = some v) (Z : Hp) : WalkD g Z J F items P where
  len := hl
  goes := fun F' H' st i e s p hi => by
    obtain ⟨vs, h1, h2⟩ := hG Z F' H' st e s p
    exact go H' vs i h1 (by rw [h2.len]; exact hi)
  stops := fun F' H' st e s p => by
    obtain ⟨vs, h1, h2⟩ := hG Z F' H' st e s p
    rw [← h2.len]; exact stop H' vs h1
  yields := fun F' H' st i v H'' e s p hi y => by
    obtain ⟨vs, h1, h2⟩ := hG Z F' H' st e s p
    obtain ⟨rfl, h3⟩ := yld H' vs i v H'' h1 (by rw [h2.len]; exact hi) y
    obtain ⟨d, h4, h5⟩ := h2.get' h3
    exact ⟨F', d, Same.refl _, s, h4, h5⟩
def iterL (m : Env → M Ex D) : Env → M Ex Src := fun ρ => bindM (m ρ) fun d => seeM fun st => (lstOf st d).bind fun xs => if xs.length ≤ sizeLine then some ⟨xs, srcP d xs⟩ else none
def iterT (m : Env → M Ex D) : Env → M Ex Src := fun ρ => bindM (m ρ) fun d => seeM fun _ => (tupOf d).bind fun xs => if xs.length ≤ sizeLine then some ⟨xs, fun _ => True⟩ else none
/-- from a value's reading to a walk's -/
theorem tI.go {n : Env → M Ex α} {β : Type} {R1 : Hp → α → β → Prop} {k : α → M Ex Src} {R : It → Hp → Prop} {P : β → Hp → Prop} (hn : ∀ ρ, Mono (n ρ)) (hk : ∀ a, Mono (k a)) (h : tI g W (fun ρ => bindM (n ρ) k) σ H R)
    (next : ∀ Z d v F2 st2 H2, Sim g Z st2 F2 H2 → R1 F2 d v → k d st2 (ResI g Z F2 R) (fun _ _ => True) → P v H2) : tX g R1 W n σ H P := by
  obtain ⟨Z, F, st, ρ, E, N, q⟩ := h
  refine ⟨Z, F, st, ρ, E, N, hn ρ _ _ _ _ _ (fun d s hk1 v F' H' e sim r => ?_) (fun _ _ x => x) q⟩
  exact next Z d v F' s H' sim r (hk d _ _ _ _ _ (fun p s z F2 H2 J e2 => z F2 H2 J (e.trans e2)) (fun _ _ _ => trivial) hk1)
theorem fi_list {m : Env → M Ex D} (hK : X.K = g.K) (h : FE g X W e m) : FI g X W tg e (iterL m) := by
  refine ⟨PI.imp (pi_list h.pe) fun σ H R q => tI.go (R1 := RelD g) h.mono (fun _ => mono_see _) q fun Z d v F st H1 sim r ⟨p, hp, q⟩ => ?_, fun ρ => mono_bind (h.mono ρ) fun _ => mono_see _⟩
  obtain ⟨xs, h1, h2⟩ := Option.bind_eq_some_iff.mp hp
  split at h2
  · rename_i hl
    cases h2
    obtain ⟨a, rfl, hs⟩ := sim.lstOf r h1
    obtain ⟨vs, hv, _⟩ := hs Z F H1 st (Same.refl _) sim (srcP_now h1)
    rw [hK]
    refine ⟨a, rfl, ⟨vs, hv⟩, q F H1 _ (Same.refl _) sim fun Z' _ => walkD_of (G := fun H vs => SqL g.K H a vs) hl hs ?_ ?_ ?_ Z'⟩
    · exact fun H vs i hG hi => ⟨vs, vs[i], hG, by simp [hi]⟩
    · exact fun H vs hG => ⟨vs, hG, Nat.le_refl _⟩
    · exact fun H vs i v H' hG hi y => ⟨y.1, y.2 vs hG⟩
  · exact nomatch h2
theorem fi_tup {m : Env → M Ex D} (hK : X.K = g.K) (h : FE g X W e m) : FI g X W tg e (iterT m) := by
  refine ⟨PI.imp (pi_tup h.pe) fun σ H R q => tI.go (R1 := RelD g) h.mono (fun _ => mono_see _) q fun Z d v F st H1 sim r ⟨p, hp, q⟩ => ?_, fun ρ => mono_bind (h.mono ρ) fun _ => mono_see _⟩
  obtain ⟨xs, h1, h2⟩ := Option.bind_eq_some_iff.mp hp
  split at h2
  · rename_i hl
    cases h2
    cases d with
    | tup ds =>
      cases (Option.some.inj h1)
      unfold RelD at r
      obtain ⟨a, vs, rfl, hv, hr⟩ := r
      rw [hK]
      refine ⟨a, rfl, ⟨vs, sqT_mono sim.same hv⟩, q F H1 _ (Same.refl _) sim fun Z' _ => walkD_of (G := fun H vs => SqT g.K H a vs) hl (fun Z' F' H' st' e s _ => ⟨vs, sqT_mono s.same (sqT_mono e hv), hr.mono e⟩) ?_ ?_ ?_ Z'⟩
      · exact fun H vs i hG hi => ⟨vs, vs[i], hG, by simp [hi]⟩
      · exact fun H vs hG => ⟨vs, hG, Nat.le_refl _⟩
      · exact fun H vs i v H' hG hi y => ⟨y.1, y.2 vs hG⟩
    | _ => cases h1
  · exact nomatch h2
/-- the signs of a text -/
def signs (z : Str) : List D := z.cps.toList.map fun c => .str ⟨#[c]⟩
def iterS (m : Env → M Ex D) : Env → M Ex Src := fun ρ => bindM (m ρ) fun d => seeM fun _ => match d with
  | .str z => if z.length ≤ sizeLine then some ⟨signs z, fun _ => True⟩ else none
  | _ => none
theorem fi_str {m : Env → M Ex D} (h : FE g X W e m) : FI g X W tg e (iterS m) := by
  refine ⟨PI.imp (pi_str h.pe) fun σ H R q => tI.go (R1 := RelD g) h.mono (fun _ => mono_see _) q fun Z d v F st H1 sim r ⟨p, hp, q⟩ => ?_, fun ρ => mono_bind (h.mono ρ) fun _ => mono_see _⟩
  cases d with
  | str z =>
    replace hp : (if z.length ≤ sizeLine then some (⟨signs z, fun _ => True⟩ : Src) else none) = some p := hp
    split at hp
    · rename_i hl
      cases hp
      unfold RelD at r
      have hlen : (signs z).length = z.cps.size := by unfold signs; simp
      refine ⟨z, r, q F H1 _ (Same.refl _) sim fun Z' _ => ⟨by rw [hlen]; exact hl, fun F' H' st i _ _ _ hi => by rw [hlen] at hi; exact hi, fun F' H' st _ _ _ => by rw [hlen]; exact Nat.le_refl _, fun F' H' st i v H'' _ s _ hi y => ?_⟩⟩
      obtain ⟨rfl, c, hc, rfl⟩ := y
      refine ⟨F', .str ⟨#[c]⟩, Same.refl _, s, ?_, relD_str⟩
      unfold signs
      rw [List.getElem?_map, Array.getElem?_toList, hc]; rfl
    · cases hp
  | _ => exact nomatch hp
def intsD (lo : Int) (n : Nat) : List D := (List.range n).map fun i => .int (lo + (i : Nat))
theorem ints_len (lo : Int) (n : Nat) : (intsD lo n).length = n := by unfold intsD; simp
theorem walkD_ints {lo : Int} {n : Nat} (h : n ≤ sizeLine) (Z F : Hp) : WalkD g Z (Itr lo n) F (intsD lo n) fun _ => True where
  len := by rw [ints_len]; exact h
  goes := fun F' H' st i _ _ _ hi => by rw [ints_len] at hi; exact hi
  stops := fun F' H' st _ _ _ => by rw [ints_len]; exact Nat.le_refl _
  yields := fun F' H' st i v H'' _ s _ hi y => by
    rw [ints_len] at hi
    obtain ⟨rfl, rfl⟩ := y
    refine ⟨F', .int (lo + i), Same.refl _, s, ?_, relD_int⟩
    unfold intsD
    rw [List.getElem?_map, List.getElem?_range hi]; rfl
def range1 : List D → Option Src
  | [.int j] => if j ≤ 1000000 ∧ -1000000 ≤ j then some ⟨intsD 0 j.toNat, fun _ => True⟩ else none
  | _ => none
def range2 : List D → Option Src
  | [.int i, .int j] => if j ≤ 1000000 ∧ -1000000 ≤ j ∧ i ≤ 1000000 ∧ -1000000 ≤ i then some ⟨intsD i (j - i).toNat, fun _ => True⟩ else none
  | _ => none
theorem range1_inv {ds : List D} {p : Src} (h : range1 ds = some p) : ∃ j, ds = [.int j] ∧ (j ≤ 1000000 ∧ -1000000 ≤ j) ∧ p = ⟨intsD 0 j.toNat, fun _ => True⟩ := by
  unfold range1 at h
  split at h
  · rename_i j
    split at h
    · rename_i hl
      cases h
      exact ⟨j, rfl, hl, rfl⟩
    · cases h
  · cases h
theorem range2_inv {ds : List D} {p : Src} (h : range2 ds = some p) : ∃ i j, ds = [.int i, .int j] ∧ (j ≤ 1000000 ∧ -1000000 ≤ j ∧ i ≤ 1000000 ∧ -1000000 ≤ i) ∧ p = ⟨intsD i (j - i).toNat, fun _ => True⟩ := by
  unfold range2 at h
  split at h
  · rename_i i j
    split at h
    · rename_i hl
      cases h
      exact ⟨i, j, rfl, hl, rfl⟩
    · cases h
  · cases h
def iterR (r : List D → Option Src) (a : Env → M Ex (List D)) : Env → M Ex Src := fun ρ => bindM (a ρ) fun ds => seeM fun _ => r ds
theorem fi_range1 {p : Pos} {a : Env → M Ex (List D)} (hg : Gl X "range") (hm : X.mg "range" = none) (h : FA g X W [e] a) (hs : starEach [e] X.env = [(false, eval e X.env)] := by rfl) : FI g X W tg (.Call (.Name "range" p) [e] [] pos) (iterR range1 a) := by
  refine ⟨PI.imp (pi_range1 hg hm h.pa hs) fun σ H R q => tI.go (R1 := RelDs g) h.mono (fun _ => mono_see _) q fun Z d v F st H1 sim r ⟨p, hp, q⟩ => ?_, fun ρ => mono_bind (h.mono ρ) fun _ => mono_see _⟩
  obtain ⟨j, rfl, hl, rfl⟩ := range1_inv hp
  obtain ⟨v, vs, rfl, r1, r2⟩ := r.cons_inv
  rw [r2.nil_inv]
  unfold RelD at r1
  have hz : sizeLine = 16777216 := by decide
  exact ⟨j, by rw [r1], by omega, by omega, q F H1 _ (Same.refl _) sim fun Z' _ => walkD_ints (by omega) Z' F⟩
theorem fi_range2 {p : Pos} {a : Env → M Ex (List D)} (hg : Gl X "range") (hm : X.mg "range" = none) (h : FA g X W [e1, e2] a) (hs : starEach [e1, e2] X.env = [(false, eval e1 X.env), (false, eval e2 X.env)] := by rfl) (hs2 : starEach [e2] X.env = [(false, eval e2 X.env)] := by rfl) : FI g X W tg (.Call (.Name "range" p) [e1, e2] [] pos) (iterR range2 a) := by
  refine ⟨PI.imp (pi_range2 hg hm h.pa hs hs2) fun σ H R q => tI.go (R1 := RelDs g) h.mono (fun _ => mono_see _) q fun Z d v F st H1 sim r ⟨p, hp, q⟩ => ?_, fun ρ => mono_bind (h.mono ρ) fun _ => mono_see _⟩
  obtain ⟨i, j, rfl, hl, rfl⟩ := range2_inv hp
  obtain ⟨v, vs, rfl, r1, r2⟩ := r.cons_inv
  obtain ⟨v2, vs2, rfl, r3, r4⟩ := r2.cons_inv
  rw [r4.nil_inv]
  unfold RelD at r1 r3
  have hz : sizeLine = 16777216 := by decide
  exact ⟨i, j, by rw [r1, r3], by omega, q F H1 _ (Same.refl _) sim fun Z' _ => walkD_ints (by omega) Z' F⟩
/-! ### pairs: enumerate, zip -/
/-- a walk that hands out new pairs -/
theorem walkD_pair {J : It} {xs ys : List D} {P : S → Prop} {G : Hp → List V → List V → Prop} (hl : xs.length ≤ sizeLine) (hG : ∀ Z' F' H' st', Same F F' → Sim g Z' st' F' H' → P st' → ∃ vs us, G H' vs us ∧ RelDs g F' xs vs ∧ RelDs g F' ys us)
    (go : ∀ H vs us i, G H vs us → i < vs.length → i < us.length → J.go i H) (stop : ∀ H vs us, G H vs us → J.stop (min vs.length us.length) H)
    (yld : ∀ H vs us i v H', G H vs us → i < vs.length → i < us.length → J.yld i H v H' → ∃ T x y, v = .ref T ∧ H T = none ∧ H' = upd H T (.tup [x, y]) ∧ vs[i]? = some x ∧ us[i]? = some y) (Z : Hp) : WalkD g Z J F ((xs.zip ys).map fun q => .tup [q.1, q.2]) P where
  len := by rw [List.length_map, List.length_zip]; omega
  goes := fun F' H' st i e s p hi => by
    obtain ⟨vs, us, h1, h2, h3⟩ := hG Z F' H' st e s p
    rw [List.length_map, List.length_zip] at hi
    exact go H' vs us i h1 (by rw [h2.len]; omega) (by rw [h3.len]; omega)
  stops := fun F' H' st e s p => by
    obtain ⟨vs, us, h1, h2, h3⟩ := hG Z F' H' st e s p
    rw [List.length_map, List.length_zip, ← h2.len, ← h3.len]
    exact stop H' vs us h1
  yields := fun F' H' st i v H'' e s p hi yy => by
    obtain ⟨vs, us, h1, h2, h3⟩ := hG Z F' H' st e s p
    rw [List.length_map, List.length_zip] at hi
    obtain ⟨T, x, y, rfl, nT, rfl, e1, e2⟩ := yld H' vs us i v H'' h1 (by rw [h2.len]; omega) (by rw [h3.len]; omega) yy
    obtain ⟨d1, e3, r1⟩ := h2.get' e1
    obtain ⟨d2, e4, r2⟩ := h3.get' e2
    have sm := same_upd (o := .tup [x, y]) (s.free nT).1
    refine ⟨_, .tup [d1, d2], sm, s.new nT, ?_, by unfold RelD; exact ⟨T, [x, y], rfl, SqT.of upd_same, .cons (r1.mono sm) (.one (r2.mono sm))⟩⟩
    rw [List.getElem?_map, (List.getElem?_zip_eq_some (z := (d1, d2))).mpr ⟨e3, e4⟩]; rfl
def enumD (xs : List D) : List D := ((intsD 0 xs.length).zip xs).map fun q => .tup [q.1, q.2]
def zipD (xs ys : List D) : List D := (xs.zip ys).map fun q => .tup [q.1, q.2]
theorem rel_ints (F : Hp) (lo : Int) (n : Nat) : RelDs g F (intsD lo n) ((List.range n).map fun i => .int (lo + (i : Nat))) := by
  unfold intsD
  generalize List.range n = l
  induction l with
  | nil => exact .nil
  | cons i l ih => exact .cons relD_int ih
def one (ds : List D) : Option D := match ds with
  | [d] => some d
  | _ => none
theorem one_inv {ds : List D} {d : D} (h : one ds = some d) : ds = [d] := by
  unfold one at h
  split at h
  · cases h; rfl
  · cases h
def iterEL (a : Env → M Ex (List D)) : Env → M Ex Src := fun ρ => bindM (a ρ) fun ds => seeM fun st => (one ds).bind fun d => (lstOf st d).bind fun xs => if xs.length ≤ sizeLine then some ⟨enumD xs, srcP d xs⟩ else none
theorem fi_enumL {p tpos : Pos} {elts : List Expr} {n : Nat} {a : Env → M Ex (List D)} (hK : X.K = g.K) (hg : Gl X "enumerate") (hm : X.mg "enumerate" = none) (h : FA g X W [e] a) (hs : starEach [e] X.env = [(false, eval e X.env)] := by rfl) :
    FI g X W (.Tuple elts n tpos) (.Call (.Name "enumerate" p) [e] [] pos) (iterEL a) := by
  refine ⟨PI.imp (pi_enum hg hm h.pa hs) fun σ H R q => tI.go (R1 := RelDs g) h.mono (fun _ => mono_see _) q fun Z d v F st H1 sim r ⟨p, hp, q⟩ => ?_, fun ρ => mono_bind (h.mono ρ) fun _ => mono_see _⟩
  obtain ⟨d1, h0, hp⟩ := Option.bind_eq_some_iff.mp hp
  obtain ⟨xs, h1, h2⟩ := Option.bind_eq_some_iff.mp hp
  cases one_inv h0
  split at h2
  · rename_i hl
    cases h2
    obtain ⟨v, vs, rfl, r1, r2⟩ := r.cons_inv
    rw [r2.nil_inv]
    obtain ⟨a, rfl, hs⟩ := sim.lstOf r1 h1
    obtain ⟨vs, hv, _⟩ := hs Z F H1 st (Same.refl _) sim (srcP_now h1)
    rw [hK]
    refine ⟨a, vs, rfl, hv, q F H1 _ (Same.refl _) sim fun Z' _ => walkD_pair (G := fun H is vs => SqL g.K H a vs ∧ is = (List.range xs.length).map (fun i => V.int (0 + (i : Nat))) ∧ vs.length = xs.length) (by rw [ints_len]; exact hl) (fun Z' F' H' st' e s p => ?_) ?_ ?_ ?_ Z'⟩
    · obtain ⟨us, h3, h4⟩ := hs Z' F' H' st' e s p
      exact ⟨_, us, ⟨h3, rfl, h4.len⟩, rel_ints F' 0 xs.length, h4⟩
    · exact fun H is vs i hG _ hi => ⟨vs, vs[i], hG.1, by simp [hi]⟩
    · exact fun H is vs hG => ⟨vs, hG.1, by rw [hG.2.1, hG.2.2]; simp⟩
    · rintro H is vs i v H' ⟨g1, g2, g3⟩ hi1 hi2 ⟨T, x, e1, e2, e3, e4⟩
      refine ⟨T, _, x, e1, e2, e3, ?_, e4 vs g1⟩
      rw [g2, List.getElem?_map, List.getElem?_range (by omega)]
      simp
  · exact nomatch h2
def iterET (a : Env → M Ex (List D)) : Env → M Ex Src := fun ρ => bindM (a ρ) fun ds => seeM fun _ => (one ds).bind fun d => (tupOf d).bind fun xs => if xs.length ≤ sizeLine then some ⟨enumD xs, fun _ => True⟩ else none
theorem tupOf_inv {d : D} {xs : List D} (h : tupOf d = some xs) : d = .tup xs := by
  cases d with
  | tup ds => cases h; rfl
  | _ => cases h
theorem fi_enumT {p tpos : Pos} {elts : List Expr} {n : Nat} {a : Env → M Ex (List D)} (hK : X.K = g.K) (hg : Gl X "enumerate") (hm : X.mg "enumerate" = none) (h : FA g X W [e] a) (hs : starEach [e] X.env = [(false, eval e X.env)] := by rfl) :
    FI g X W (.Tuple elts n tpos) (.Call (.Name "enumerate" p) [e] [] pos) (iterET a) := by
  refine ⟨PI.imp (pi_enumT hg hm h.pa hs) fun σ H R q => tI.go (R1 := RelDs g) h.mono (fun _ => mono_see _) q fun Z d v F st H1 sim r ⟨p, hp, q⟩ => ?_, fun ρ => mono_bind (h.mono ρ) fun _ => mono_see _⟩
  obtain ⟨d1, h0, hp⟩ := Option.bind_eq_some_iff.mp hp
  obtain ⟨xs, h1, h2⟩ := Option.bind_eq_some_iff.mp hp
  cases one_inv h0
  cases tupOf_inv h1
  split at h2
  · rename_i hl
    cases h2
    obtain ⟨v, vs, rfl, r1, r2⟩ := r.cons_inv
    rw [r2.nil_inv]
    unfold RelD at r1
    obtain ⟨a, vs, rfl, hv, hr⟩ := r1
    rw [hK]
    refine ⟨a, vs, rfl, sqT_mono sim.same hv, q F H1 _ (Same.refl _) sim fun Z' _ => walkD_pair (G := fun H is vs => SqT g.K H a vs ∧ is = (List.range xs.length).map (fun i => V.int (0 + (i : Nat))) ∧ vs.length = xs.length) (by rw [ints_len]; exact hl) (fun Z' F' H' st' e s p => ?_) ?_ ?_ ?_ Z'⟩
    · exact ⟨_, vs, ⟨sqT_mono s.same (sqT_mono e hv), rfl, hr.len⟩, rel_ints F' 0 xs.length, hr.mono e⟩
    · exact fun H is vs i hG _ hi => ⟨vs, vs[i], hG.1, by simp [hi]⟩
    · exact fun H is vs hG => ⟨vs, hG.1, by rw [hG.2.1, hG.2.2]; simp⟩
    · rintro H is vs i v H' ⟨g1, g2, g3⟩ hi1 hi2 ⟨T, x, e1, e2, e3, e4⟩
      refine ⟨T, _, x, e1, e2, e3, ?_, e4 vs g1⟩
      rw [g2, List.getElem?_map, List.getElem?_range (by omega)]
      simp
  · exact nomatch h2
/-- zip of two tuples, of two lists -/
def zipSrc (st : S) (ds : List D) : Option Src := match ds with
  | [.tup xs, .tup ys] => if xs.length ≤ sizeLine then some ⟨zipD xs ys, fun _ => True⟩ else none
  | [d, e] => (lstOf st d).bind fun xs => (lstOf st e).bind fun ys => if xs.length ≤ sizeLine then some ⟨zipD xs ys, fun s => srcP d xs s ∧ srcP e ys s⟩ else none
  | _ => none
def iterZ (a : Env → M Ex (List D)) : Env → M Ex Src := fun ρ => bindM (a ρ) fun ds => seeM fun st => zipSrc st ds
theorem fi_zip {p tpos : Pos} {elts : List Expr} {n : Nat} {a : Env → M Ex (List D)} (hK : X.K = g.K) (hg : Gl X "zip") (hm : X.mg "zip" = none) (h : FA g X W [e1, e2] a)
    (hs : starEach [e1, e2] X.env = (false, eval e1 X.env) :: starEach [e2] X.env := by rfl) (hpl : (backTo pos (starEach [e2] X.env)).any (·.1) = false := by rfl) :
    FI g X W (.Tuple elts n tpos) (.Call (.Name "zip" p) [e1, e2] [] pos) (iterZ a) := by
  refine ⟨PI.imp (RZ.pi_zipA hg hm h.pa hs hpl) fun σ H R q => tI.go (R1 := RelDs g) h.mono (fun _ => mono_see _) q fun Z d v F st H1 sim r ⟨p, hp, q⟩ => ?_, fun ρ => mono_bind (h.mono ρ) fun _ => mono_see _⟩
  unfold zipSrc at hp
  split at hp
  · rename_i xs ys
    split at hp
    · rename_i hl
      cases hp
      obtain ⟨v, vs, rfl, r1, r2⟩ := r.cons_inv
      obtain ⟨v2, vs2, rfl, r3, r4⟩ := r2.cons_inv
      rw [r4.nil_inv]
      unfold RelD at r1 r3
      obtain ⟨a, vs, rfl, hv, hr⟩ := r1
      obtain ⟨b, us, rfl, hu, hr2⟩ := r3
      rw [hK]
      refine ⟨a, b, vs, us, rfl, .inr ⟨sqT_mono sim.same hv, sqT_mono sim.same hu, q F H1 _ (Same.refl _) sim fun Z' _ => walkD_pair (G := fun H vs us => SqT g.K H a vs ∧ SqT g.K H b us) hl (fun Z' F' H' st' e s p => ?_) ?_ ?_ ?_ Z'⟩⟩
      · exact ⟨vs, us, ⟨sqT_mono s.same (sqT_mono e hv), sqT_mono s.same (sqT_mono e hu)⟩, hr.mono e, hr2.mono e⟩
      · exact fun H vs us i hG h1 h2 => ⟨vs, us, vs[i], us[i], hG.1, hG.2, by simp [h1], by simp [h2]⟩
      · exact fun H vs us hG => ⟨vs, us, hG.1, hG.2, by omega⟩
      · rintro H vs us i v H' ⟨g1, g2⟩ h1 h2 ⟨T, x, y, e1, e2, e3, e4, e5⟩
        exact ⟨T, x, y, e1, e2, e3, e4 vs g1, e5 us g2⟩
    · exact nomatch hp
  · rename_i d e _
    obtain ⟨xs, h1, hp⟩ := Option.bind_eq_some_iff.mp hp
    obtain ⟨ys, h2, hp⟩ := Option.bind_eq_some_iff.mp hp
    split at hp
    · rename_i hl
      cases hp
      obtain ⟨v, vs, rfl, r1, r2⟩ := r.cons_inv
      obtain ⟨v2, vs2, rfl, r3, r4⟩ := r2.cons_inv
      rw [r4.nil_inv]
      obtain ⟨a, rfl, hs1⟩ := sim.lstOf r1 h1
      obtain ⟨b, rfl, hs2⟩ := sim.lstOf r3 h2
      obtain ⟨vs, hv, _⟩ := hs1 Z F H1 st (Same.refl _) sim (srcP_now h1)
      obtain ⟨us, hu, _⟩ := hs2 Z F H1 st (Same.refl _) sim (srcP_now h2)
      rw [hK]
      refine ⟨a, b, vs, us, rfl, .inl ⟨hv, hu, q F H1 _ (Same.refl _) sim fun Z' _ => walkD_pair (G := fun H vs us => SqL g.K H a vs ∧ SqL g.K H b us) hl (fun Z' F' H' st' e s p => ?_) ?_ ?_ ?_ Z'⟩⟩
      · obtain ⟨vs, h3, h4⟩ := hs1 Z' F' H' st' e s p.1
        obtain ⟨us, h5, h6⟩ := hs2 Z' F' H' st' e s p.2
        exact ⟨vs, us, ⟨h3, h5⟩, h4, h6⟩
      · exact fun H vs us i hG h1 h2 => ⟨vs, us, vs[i], us[i], hG.1, hG.2, by simp [h1], by simp [h2]⟩
      · exact fun H vs us hG => ⟨vs, us, hG.1, hG.2, by omega⟩
      · rintro H vs us i v H' ⟨g1, g2⟩ h1 h2 ⟨T, x, y, e1, e2, e3, e4, e5⟩
        exact ⟨T, x, y, e1, e2, e3, e4 vs g1, e5 us g2⟩
    · exact nomatch hp
  · exact nomatch hp
/-! ### comprehensions -/
def wipeD (ρ : Env) : List Nat → Env
  | [] => ρ
  | v :: vs => (wipeD ρ vs).set v none
theorem REnv.wipe (h : REnv g F σ ρ) : ∀ vs : List Nat, REnv g F (wipe σ vs) (wipeD ρ vs)
  | [] => h
  | v :: vs => (REnv.wipe h vs).none
/-- nothing may be raised -/
def noX (m : M Ex α) : M Ex α := fun s Q _ => m s Q fun _ _ => False
theorem mono_noX {m : M Ex α} (h : Mono m) : Mono (noX m) := fun s _ _ _ _ hq _ => h s _ _ _ _ hq fun _ _ x => x
def lcLoop (P : S → Prop) (f : D → Env → Option Env) (tt : Env → M Ex Bool) (te : Env → M Ex D) (ρ : Env) : List D → List D → M Ex (List D)
  | [], acc => fun s Q _ => P s ∧ Q acc s
  | d :: ds, acc => fun s Q E => P s ∧ ∃ ρ1, f d ρ = some ρ1 ∧ bindM (noX (tt ρ1)) (fun b => if b = true then bindM (noX (te ρ1)) fun y => lcLoop P f tt te ρ ds (acc ++ [y]) else lcLoop P f tt te ρ ds acc) s Q E
theorem mono_lcLoop {P : S → Prop} {f : D → Env → Option Env} {tt : Env → M Ex Bool} {te : Env → M Ex D} (ht : ∀ ρ, Mono (tt ρ)) (he : ∀ ρ, Mono (te ρ)) : ∀ (ds acc : List D), Mono (lcLoop P f tt te ρ ds acc)
  | [], acc => fun s _ _ _ _ hq _ ⟨p, q⟩ => ⟨p, hq _ _ q⟩
  | d :: ds, acc => fun s _ _ _ _ hq hx ⟨p, ρ1, e, q⟩ => ⟨p, ρ1, e, mono_bind (mono_noX (ht ρ1)) (fun b => mono_ite (mono_bind (mono_noX (he ρ1)) fun y => mono_lcLoop ht he ds _) (mono_lcLoop ht he ds _)) _ _ _ _ _ hq hx q⟩
def lcE (mi : Env → M Ex Src) (own : List Nat) (f : D → Env → Option Env) (tt : Env → M Ex Bool) (te : Env → M Ex D) (out : List D → M Ex D) : Env → M Ex D := fun ρ => bindM (mi ρ) fun p => bindM (lcLoop p.P f tt te (wipeD ρ own) p.items []) out
/-- what becomes of the new list: it never changes; it stays a place -/
def outF : List D → M Ex D := fun ds => pureM (.lst ds)
def outN : List D → M Ex D := fun ds => newM (.lst ds)
structure Out (g : G) (out : List D → M Ex D) : Prop where
  mono : ∀ ds, Mono (out ds)
  ok : ∀ {Z F H : Hp} {st : S} {a : Addr} {ds : List D} {vs : List V} {Q : VK} {E : Ex → S → Prop}, Z a = none → Sim g (upd Z a (.lst vs)) st F H → RelDs g F ds vs → out ds st (Res g (RelD g) Z F Q) E → Q (.ref a) H
theorem out_F : Out g outF := ⟨fun _ => mono_pure _, fun {Z F H st a ds vs Q E} z sim r q => by
  have nF := (sim.pin a _ upd_same).1
  have s := same_upd (o := .lst vs) nF
  exact q _ _ _ s (sim.pinKeep z) (by unfold RelD; exact ⟨a, vs, rfl, upd_same, r.mono s⟩)⟩
theorem out_N : Out g outN := ⟨fun _ => mono_new, fun {Z F H st a ds vs Q E} z sim r q => by
  obtain ⟨nF, nS, h⟩ := sim.pin a _ upd_same
  exact q a nS _ F H (Same.refl _) (sim.pinPut z ⟨vs, h, r⟩) relD_ref⟩
theorem wipe_get : ∀ (vs : List Nat) (σ : St) (j : Nat), (wipe σ vs)[j]? = if j ∈ vs then σ[j]?.map (fun _ => none) else σ[j]?
  | [], σ, j => by simp [wipe]
  | v :: vs, σ, j => by
    show ((wipe σ vs).set v none)[j]? = _
    by_cases q : v = j
    · subst q
      rw [List.getElem?_set_self', wipe_get vs σ v, if_pos List.mem_cons_self]
      by_cases h : v ∈ vs
      · rw [if_pos h]; cases σ[v]? <;> rfl
      · rw [if_neg h]; cases σ[v]? <;> rfl
    · rw [List.getElem?_set_ne q, wipe_get vs σ j]
      have : (j ∈ v :: vs) ↔ j ∈ vs := by simp [Ne.symm q]
      simp only [this]
theorem wipe_set {σ : St} {i : Nat} {o : Option V} {vs : List Nat} (h : i ∈ vs) : wipe (σ.set i o) vs = wipe σ vs := by
  refine List.ext_getElem? fun j => ?_
  rw [wipe_get, wipe_get]
  by_cases q : i = j
  · subst q
    rw [if_pos h, if_pos h, List.getElem?_set_self']
    cases σ[i]? <;> rfl
  · rw [List.getElem?_set_ne q]
theorem wipe_wipe {σ : St} {vs : List Nat} : wipe (wipe σ vs) vs = wipe σ vs := by
  refine List.ext_getElem? fun j => ?_
  rw [wipe_get, wipe_get]
  by_cases h : j ∈ vs
  · rw [if_pos h, if_pos h]
    cases σ[j]? <;> rfl
  · rw [if_neg h]
/-- targets of a comprehension -/
def tGw (g : G) (own : List Nat) (f : D → Env → Option Env) : TG := fun v σ H Q => ∃ Z F st d ρ ρ', Sim g Z st F H ∧ REnv g F σ ρ ∧ RelD g F d v ∧ f d ρ = some ρ' ∧ ∀ σ', REnv g F σ' ρ' → wipe σ' own = wipe σ own → Q σ' H
def tGsw (g : G) (own : List Nat) (f : List D → Env → Option Env) : TGs := fun v σ H Q => ∃ Z F st d ρ ρ', Sim g Z st F H ∧ REnv g F σ ρ ∧ RelDs g F d v ∧ f d ρ = some ρ' ∧ ∀ σ', REnv g F σ' ρ' → wipe σ' own = wipe σ own → Q σ' H
def FGw (g : G) (X : Cx) (own : List Nat) (tg : Expr) (f : D → Env → Option Env) : Prop := PG X tg (tGw g own f)
def FGsw (g : G) (X : Cx) (own : List Nat) (tg : List Expr) (f : List D → Env → Option Env) : Prop := PGs X tg (tGsw g own f)
variable {own : List Nat}
theorem fgw_name {i : Nat} {x : Str} (hN : X.N.Nodup) (hi : X.N[i]? = some x) (hx : Loc X.env.scope x) (ho : i ∈ own) (hf : X.fn x = true ∨ X.env.scope.names.lookup x = some .local := by first | exact .inl rfl | exact .inr rfl | assumption) : FGw g X own (.Name x pos) (toName i) :=
  PG.imp (pg_name hN hi hx hf) fun v σ H Q ⟨Z, F, st, d, ρ, ρ', sim, env, r, e, q⟩ => by
    cases (Option.some.inj e)
    exact q _ (env.set r) (wipe_set ho)
theorem fgsw_nil : FGsw g X own [] toNil := PGs.imp pgs_nil fun v σ H Q ⟨Z, F, st, d, ρ, ρ', sim, env, r, e, q⟩ => by
  cases d with
  | nil =>
    cases (Option.some.inj e)
    exact ⟨r.nil_inv, q _ env rfl⟩
  | cons _ _ => cases e
theorem fgsw_cons {es : List Expr} {f : D → Env → Option Env} {k : List D → Env → Option Env} (h1 : FGw g X own e f) (h2 : FGsw g X own es k) (hs : (assignEach (e :: es) X.env).map (·.2) = assign e X.env :: (assignEach es X.env).map (·.2) := by rfl) : FGsw g X own (e :: es) (toCons f k) :=
  PGs.imp (pgs_cons h1 h2 hs) fun vs σ H Q ⟨Z, F, st, ds, ρ, ρ', sim, env, r, eq, q⟩ => by
    cases ds with
    | nil => cases eq
    | cons d ds =>
      obtain ⟨v, vs', rfl, r1, r2⟩ := r.cons_inv
      cases hf : f d ρ with
      | none =>
        have : (match f d ρ with | some ρ' => k ds ρ' | none => none) = some ρ' := eq
        rw [hf] at this; cases this
      | some ρ1 =>
        have e2 : (match f d ρ with | some ρ' => k ds ρ' | none => none) = some ρ' := eq
        rw [hf] at e2
        exact ⟨v, vs', rfl, Z, F, st, d, ρ, ρ1, sim, env, r1, hf, fun σ1 env1 w1 => ⟨Z, F, st, ds, ρ1, ρ', sim, env1, r2, e2, fun σ2 env2 w2 => q σ2 env2 (w2.trans w1)⟩⟩
theorem fgw_tup {es : List Expr} {k : Nat} {n : Nat} {f : List D → Env → Option Env} (hK : X.K = g.K) (hc : X.calm = true) (h : FGsw g X own es f) (hn : (assignEach es X.env).length = n := by rfl) (hst : (assignEach es X.env).findIdx? (·.1) = none := by rfl) : FGw g X own (.Tuple es k pos) (toTup n f) :=
  PG.imp (pg_tup hc h hn hst) fun v σ H Q ⟨Z, F, st, d, ρ, ρ', sim, env, r, eq, q⟩ => by
    cases d with
    | tup ds =>
      unfold RelD at r
      obtain ⟨a, vs, rfl, hs, hr⟩ := r
      have e2 : (if ds.length = n then f ds ρ else none) = some ρ' := eq
      by_cases hl : ds.length = n
      · rw [if_pos hl] at e2
        rw [hK]
        exact ⟨a, vs, rfl, sqT_mono sim.same hs, hr.len.trans hl, Z, F, st, ds, ρ, ρ', sim, env, hr, e2, q⟩
      · rw [if_neg hl] at e2; cases e2
    | _ => cases eq
abbrev WN : WX := fun _ _ _ _ => False
structure FTs (g : G) (X : Cx) (W : WX) (ifs : List Expr) (m : Env → M Ex Bool) : Prop where
  pt : PTs X ifs (tX g RB W m)
  mono : ∀ ρ, Mono (m ρ)
def yesT : Env → M Ex Bool := fun _ => pureM true
theorem fts_nil : FTs g X W [] yesT := ⟨⟨fun pins s σ H Q I ⟨Z, F, st, ρ, E, N, q⟩ => pts_nil.run pins s σ H Q I (tX.done (R := RB) N rfl q)⟩, fun _ => mono_pure _⟩
theorem fts_one {m : Env → M Ex Bool} (h : FT g X W e m) : FTs g X W [e] m := ⟨pts_one h.pt, h.mono⟩
theorem takes_blk [Kd] {s : Shared} {H : Hp} {scope : Scope} {env : PySem.Env} {fp : List Addr} : Takes (X.blk s H scope env fp) WN := takB_no fun _ _ _ _ w => w
theorem lc_go {iter : Expr} {mi : Env → M Ex Src} {f : D → Env → Option Env} {tt : Env → M Ex Bool} {te : Env → M Ex D} {out : List D → M Ex D} {Q : VK} (hi : ∀ ρ, Mono (mi ρ)) (ht : ∀ ρ, Mono (tt ρ)) (he : ∀ ρ, Mono (te ρ)) (ho : Out g out) (h : tX g (RelD g) W (lcE mi own f tt te out) σ H Q) :
    tLc (tI g W mi) (tGw g own f) (tX g RB WN tt) (tX g (RelD g) WN te) own σ H Q := by
  obtain ⟨Z, F, st, ρ, E, N, q⟩ := h
  refine ⟨Z, F, st, ρ, E, N, hi ρ _ _ _ _ _ (fun p st2 q2 F2 H2 J e2 sim2 w Dd nD => ?_) (fun _ _ x => x) q⟩
  have zD := sim2.zfree nD
  have env2 := (N.env.mono e2).wipe own
  refine ⟨fun i m H => m = p.items.length - i ∧ i ≤ p.items.length ∧ ∃ F3 st3 acc accV, Same F2 F3 ∧ Sim g (upd Z Dd (.lst accV)) st3 F3 H ∧ RelDs g F3 acc accV ∧ acc.length ≤ i ∧ bindM (lcLoop p.P f tt te (wipeD ρ own) (p.items.drop i) acc) out st3 (Res g (RelD g) Z F3 Q) (fun x s => E x ρ s),
    ⟨_, rfl, Nat.zero_le _, F2, st2, [], [], Same.refl _, sim2.pinNew nD, .nil, Nat.le_refl _, mono_bind (mono_lcLoop ht he _ _) ho.mono _ _ _ _ _ (fun _ _ z => z.mono e2) (fun _ _ x => x) q2⟩, ?_⟩
  rintro i m H1 ⟨rfl, hi1, F3, st3, acc, accV, e3, sim3, r3, hl3, q3⟩
  have w1 := w (upd Z Dd (.lst accV)) fun a o h => by rw [upd_ne (by rintro rfl; rw [zD] at h; cases h)]; exact h
  by_cases hlt : i < p.items.length
  · rw [List.drop_eq_getElem_cons hlt] at q3
    obtain ⟨pp, ρ1, hf, q3⟩ := q3
    refine .inr ⟨w1.goes F3 H1 st3 i e3 sim3 pp hlt, fun H => ∃ F3 st3 acc accV, Same F2 F3 ∧ Sim g (upd Z Dd (.lst accV)) st3 F3 H ∧ RelDs g F3 acc accV ∧ acc.length ≤ i + 1 ∧ bindM (lcLoop p.P f tt te (wipeD ρ own) (p.items.drop (i + 1)) acc) out st3 (Res g (RelD g) Z F3 Q) (fun x s => E x ρ s), fun H' h => ⟨p.items.length - (i + 1), by omega, rfl, hlt, h⟩, fun x H' y => ?_⟩
    obtain ⟨F4, d, e4, sim4, hd, r⟩ := w1.yields F3 H1 st3 i x H' e3 sim3 pp hlt y
    have hd' : p.items[i] = d := by rw [List.getElem?_eq_getElem hlt] at hd; exact Option.some.inj hd
    rw [hd'] at hf
    refine ⟨_, F4, st3, d, _, ρ1, sim4, env2.mono (e3.trans e4), r, hf, fun σ2 env3 hw => ⟨hw.trans wipe_wipe, ?_⟩⟩
    have lk : ∀ F, Lk g WN (upd Z Dd (.lst accV)) F (fun _ _ _ => False) := fun F x ρ st F' H' u d σ _ _ _ _ h => h.elim
    refine ⟨_, F4, st3, ρ1, fun _ _ _ => False, ⟨sim4, env3, lk _⟩, ht ρ1 _ _ _ _ _ (fun b s k c F5 H5 e5 sim5 rb => ?_) (fun _ _ x => x) q3⟩
    cases rb
    cases b with
    | true =>
      refine iteT ⟨_, F5, s, ρ1, fun _ _ _ => False, ⟨sim5, env3.mono e5, lk _⟩, he ρ1 _ _ _ _ _ (fun dy s k v F6 H6 e6 sim6 ry => ?_) (fun _ _ x => x) k⟩
      have e36 := (e4.trans e5).trans e6
      refine ⟨accV, (sim6.pin Dd _ upd_same).2.2, by rw [r3.len]; have := w1.len; omega, F6, s, acc ++ [dy], accV ++ [v], e3.trans e36, sim6.pinSet, (r3.mono e36).append (.one ry), by simp; omega, ?_⟩
      exact mono_bind (mono_lcLoop ht he _ _) ho.mono _ _ _ _ _ (fun _ _ z => z.mono e36) (fun _ _ x => x) k
    | false =>
      have e35 := e4.trans e5
      refine iteF ⟨F5, s, acc, accV, e3.trans e35, sim5, r3.mono e35, by omega, ?_⟩
      exact mono_bind (mono_lcLoop ht he _ _) ho.mono _ _ _ _ _ (fun _ _ z => z.mono e35) (fun _ _ x => x) k
  · have ei : i = p.items.length := by omega
    subst ei
    rw [List.drop_length] at q3
    obtain ⟨pp, q3⟩ := q3
    exact .inl ⟨w1.stops F3 H1 st3 e3 sim3 pp, ho.ok zD sim3 r3 q3⟩
theorem mono_lcE {mi : Env → M Ex Src} {f : D → Env → Option Env} {tt : Env → M Ex Bool} {te : Env → M Ex D} {out : List D → M Ex D} (hi : ∀ ρ, Mono (mi ρ)) (ht : ∀ ρ, Mono (tt ρ)) (he : ∀ ρ, Mono (te ρ)) (ho : ∀ ds, Mono (out ds)) (ρ : Env) : Mono (lcE mi own f tt te out ρ) :=
  mono_bind (hi ρ) fun p => mono_bind (mono_lcLoop ht he _ _) ho
theorem fe_lc {elt iter : Expr} {ifs : List Expr} {scope : Scope} {ow : List (Str × Nat)} {mi : Env → M Ex Src} {f : D → Env → Option Env} {tt : Env → M Ex Bool} {te : Env → M Ex D} {out : List D → M Ex D} (ho : Out g out) (hc : X.calm = true) (hN : X.N.Nodup) (hi : FI g X W tg iter mi) (ok : BlkOk X.N X.env.scope scope ow)
    (hg : ∀ (s : Shared) (H : Hp) (C : Addr) (cl : List (Str × Addr)) (fp : List Addr), FGw g (X.blk s H scope (compEnvC scope cl C X.env) fp) (ow.map (·.2)) tg f) (ht : ∀ (s : Shared) (H : Hp) (C : Addr) (cl : List (Str × Addr)) (fp : List Addr), FTs g (X.blk s H scope (compEnvC scope cl C X.env) fp) WN ifs tt)
    (he : ∀ (s : Shared) (H : Hp) (C : Addr) (cl : List (Str × Addr)) (fp : List Addr), FE g (X.blk s H scope (compEnvC scope cl C X.env) fp) WN elt te) (ht0 : ∀ ρ, Mono (tt ρ)) (he0 : ∀ ρ, Mono (te ρ)) (hs : ∀ x, foldedSetIterable iter X.env x = pure x := by intro _; rfl) :
    FE g X W (.ListComp elt [⟨tg, iter, ifs, 0⟩] scope pos) (lcE mi (ow.map (·.2)) f tt te out) :=
  ⟨PE.imp (pe_lc hc hN hi.pi ok hg (fun s H C cl fp => (ht s H C cl fp).pt) (fun s H C cl fp => (he s H C cl fp).pe) hs) fun σ H Q q => lc_go (iter := iter) hi.mono ht0 he0 ho q, mono_lcE hi.mono ht0 he0 ho.mono⟩
/-- name = [..] on one line -/
theorem fs_setLc {i : Nat} {y : Str} {py spos : Pos} {elt iter : Expr} {ifs : List Expr} {scope : Scope} {ow : List (Str × Nat)} {mi : Env → M Ex Src} {f : D → Env → Option Env} {tt : Env → M Ex Bool} {te : Env → M Ex D} {out : List D → M Ex D} (ho : Out g out) (hc : X.calm = true) (hN : X.N.Nodup) (hy : X.N[i]? = some y) (hyl : X.env.scope.names.lookup y = some .local)
    (hsw : swapsWith (.ListComp elt [⟨tg, iter, ifs, 0⟩] scope pos) (some (.Name y py)) spos.line X.env = pure true) (hi : FI g X W tg iter mi) (ok : BlkOk X.N X.env.scope scope ow)
    (hg : ∀ (s : Shared) (H : Hp) (C : Addr) (cl : List (Str × Addr)) (fp : List Addr), FGw g (X.blk s H scope (compEnvC scope cl C X.env) fp) (ow.map (·.2)) tg f) (ht : ∀ (s : Shared) (H : Hp) (C : Addr) (cl : List (Str × Addr)) (fp : List Addr), FTs g (X.blk s H scope (compEnvC scope cl C X.env) fp) WN ifs tt)
    (he : ∀ (s : Shared) (H : Hp) (C : Addr) (cl : List (Str × Addr)) (fp : List Addr), FE g (X.blk s H scope (compEnvC scope cl C X.env) fp) WN elt te) (ht0 : ∀ ρ, Mono (tt ρ)) (he0 : ∀ ρ, Mono (te ρ)) (hs : ∀ x, foldedSetIterable iter X.env x = pure x := by intro _; rfl) :
    FS g X W (.Assign [.Name y py] (.ListComp elt [⟨tg, iter, ifs, 0⟩] scope pos) spos) (setS i (lcE mi (ow.map (·.2)) f tt te out)) := by
  refine ⟨PS.imp (ps_setLc hc hN hy hyl hsw hi.pi ok hg (fun s H C cl fp => (ht s H C cl fp).pt) (fun s H C cl fp => (he s H C cl fp).pe) hs) fun D σ H ⟨Z, F, st, ρ, E, N, q⟩ => ?_, fun ρ => mono_bind (mono_up (mono_lcE hi.mono ht0 he0 ho.mono ρ)) fun _ => mono_pure _⟩
  exact lc_go (iter := iter) hi.mono ht0 he0 ho (tS.go (R1 := RelD g) N (mono_lcE hi.mono ht0 he0 ho.mono ρ) (fun _ => mono_pure _) q fun d v F st H1 e N r q => q _ F H1 (Same.refl _) N.sim (N.env.set r))
end DL

/-! ### builtins, methods of lists and texts, dicts -/
namespace DL
open PySem L2
variable {g : G} {Z F F' H H' : Hp} {W : WX} {σ : St} {ρ : Env} {st : S} {α β γ δ : Type} {X : Cx} {e e1 e2 e3 tg : Expr} {pos : Pos}
variable {x : Str} {p : Pos} {es : List Expr} {a : Env → M Ex (List D)}
abbrev PN := List D → S → Option D
def rN (g : G) (f : PN) : List V → Hp → VK → Prop := fun vs H Q => ∃ Z F st ds d, Sim g Z st F H ∧ RelDs g F ds vs ∧ f ds st = some d ∧ Res g (RelD g) Z F Q d st
theorem CallR.imp {f : Value} {r r' : List V → Hp → VK → Prop} (h : CallR X f r) (k : ∀ xs H Q, r' xs H Q → r xs H Q) : CallR X f r' := fun pins s σ H xs us Q I rx q => h pins s σ H xs us Q I rx (k _ _ _ q)
def prim (f : PN) (a : Env → M Ex (List D)) : Env → M Ex D := fun ρ => bindM (a ρ) fun ds => seeM (f ds)
theorem mono_prim {f : PN} (h : ∀ ρ, Mono (a ρ)) (ρ : Env) : Mono (prim f a ρ) := mono_bind (h ρ) fun _ => mono_see _
theorem tX.prim {f : PN} {Q : VK} (ha : ∀ ρ, Mono (a ρ)) (h : tX g (RelD g) W (DL.prim f a) σ H Q) : tX g (RelDs g) W a σ H fun vs H1 => rN g f vs H1 Q := by
  obtain ⟨Z, F, st, ρ, E, N, q⟩ := h
  refine tX.go (R1 := RelDs g) N (ha ρ) (fun _ => mono_see _) q fun ds vs F st H1 e N r q => ?_
  obtain ⟨d, ed, q⟩ := q
  exact ⟨Z, F, st, ds, d, N.sim, r, ed, q⟩
theorem fe_callB {id : String} {f : PN} (hc : CallR X (.builtin id) (rN g f)) (hg : Gl X x) (hm : X.mg x = none) (hv : bootBuiltins x = some (.builtin id)) (ha : FA g X W (e :: es) a) (hn : x ≠ "__name__" := by decide) (hdb : (x == ("__debug__" : Str)) = false := by decide)
    (he : starEach (e :: es) X.env = (false, eval e X.env) :: starEach es X.env := by rfl) (hpl : (backTo pos (starEach es X.env)).any (·.1) = false := by rfl) : FE g X W (.Call (.Name x p) (e :: es) [] pos) (prim f a) :=
  ⟨PE.imp (pe_callB hc hg hm hv ha.pa hn hdb he hpl) fun _ _ _ q => tX.prim ha.mono q, mono_prim ha.mono⟩
theorem fe_callTy {T : String} {f : PN} (hc : CallR X (.type T) (rN g f)) (hg : Gl X x) (hm : X.mg x = none) (hv : bootBuiltins x = some (.type T)) (ha : FA g X W (e :: es) a) (hn : x ≠ "__name__" := by decide) (hdb : (x == ("__debug__" : Str)) = false := by decide)
    (he : starEach (e :: es) X.env = (false, eval e X.env) :: starEach es X.env := by rfl) (hpl : (backTo pos (starEach es X.env)).any (·.1) = false := by rfl) : FE g X W (.Call (.Name x p) (e :: es) [] pos) (prim f a) :=
  ⟨PE.imp (pe_callTy hc hg hm hv ha.pa hn hdb he hpl) fun _ _ _ q => tX.prim ha.mono q, mono_prim ha.mono⟩
/-! len -/
def lenD : PN := fun ds st => (one ds).bind fun d => match d with
  | .str z => if z.length ≤ sizeLine then some (.int z.length) else none
  | d => (seqD st d).map fun xs => .int xs.length
theorem cr_len (hK : X.K = g.K) : CallR X (.builtin "len") (rN g lenD) := CallR.imp call_len fun vs H Q ⟨Z, F, st, ds, d, sim, r, ed, q⟩ => by
  obtain ⟨d1, h0, e⟩ := Option.bind_eq_some_iff.mp ed
  clear ed
  cases one_inv h0
  obtain ⟨v, vs, rfl, r1, r2⟩ := r.cons_inv
  rw [r2.nil_inv, hK]
  split at e
  · rename_i z
    split at e
    · rename_i hl
      cases e
      unfold RelD at r1
      subst r1
      exact ⟨_, z.length, rfl, ⟨hl, rfl⟩, q _ F H (Same.refl _) sim relD_int⟩
    · cases e
  · obtain ⟨xs, h1, rfl⟩ := Option.map_eq_some_iff.mp e
    obtain ⟨a, us, rfl, hs, hr⟩ := sim.seq r1 h1
    refine ⟨_, us.length, rfl, ?_, by rw [hr.len]; exact q _ F H (Same.refl _) sim relD_int⟩
    rcases hs with hs | hs
    · exact .inl ⟨us, hs, rfl⟩
    · exact .inr ⟨us, hs, rfl⟩
/-! int, list, tuple -/
def intF : PN := fun ds _ => (one ds).bind fun d => match d with
  | .int i => some (.int i)
  | .bl b => some (.int (if b then 1 else 0))
  | _ => none
theorem cr_int : CallR X (.type "int") (rN g intF) := CallR.imp call_int1 fun vs H Q ⟨Z, F, st, ds, d, sim, r, ed, q⟩ => by
  obtain ⟨d1, h0, e⟩ := Option.bind_eq_some_iff.mp ed
  clear ed
  cases one_inv h0
  obtain ⟨v, vs, rfl, r1, r2⟩ := r.cons_inv
  rw [r2.nil_inv]
  split at e
  · cases e
    unfold RelD at r1
    exact .inl ⟨_, by rw [r1], q _ F H (Same.refl _) sim relD_int⟩
  · cases e
    unfold RelD at r1
    exact .inr ⟨_, by rw [r1], q _ F H (Same.refl _) sim relD_int⟩
  · cases e
def listF : PN := fun ds st => (one ds).bind fun d => (seqD st d).map .lst
theorem cr_list (hK : X.K = g.K) : CallR X (.type "list") (rN g listF) := CallR.imp call_list_of fun vs H Q ⟨Z, F, st, ds, d, sim, r, ed, q⟩ => by
  obtain ⟨d1, h0, e⟩ := Option.bind_eq_some_iff.mp ed
  clear ed
  obtain ⟨xs, h1, rfl⟩ := Option.map_eq_some_iff.mp e
  cases one_inv h0
  obtain ⟨v, vs, rfl, r1, r2⟩ := r.cons_inv
  rw [r2.nil_inv, hK]
  obtain ⟨a, us, rfl, hs, hr⟩ := sim.seq r1 h1
  refine ⟨a, us, rfl, hs, fun l nl => ?_⟩
  have s := same_upd (o := .lst us) (sim.free nl).1
  exact q _ _ _ s (sim.new nl) (by unfold RelD; exact ⟨l, us, rfl, upd_same, hr.mono s⟩)
def tupleF : PN := fun ds st => (one ds).bind fun d => (seqD st d).map .tup
theorem cr_tuple (hK : X.K = g.K) : CallR X (.type "tuple") (rN g tupleF) := CallR.imp call_tuple_of fun vs H Q ⟨Z, F, st, ds, d, sim, r, ed, q⟩ => by
  obtain ⟨d1, h0, e⟩ := Option.bind_eq_some_iff.mp ed
  clear ed
  obtain ⟨xs, h1, rfl⟩ := Option.map_eq_some_iff.mp e
  cases one_inv h0
  obtain ⟨v, vs, rfl, r1, r2⟩ := r.cons_inv
  rw [r2.nil_inv, hK]
  have new : ∀ a us, RelDs g F xs us → SqL g.K H a us → ∃ p ys, [V.ref a] = [.ref p] ∧ ((SqL g.K H p ys ∧ ∀ l, H l = none → Q (.ref l) (upd H l (.tup ys))) ∨ (SqT g.K H p ys ∧ Q (.ref p) H)) := fun a us hr hs =>
    ⟨a, us, rfl, .inl ⟨hs, fun l nl => by
      have s := same_upd (o := .tup us) (sim.free nl).1
      exact q _ _ _ s (sim.new nl) (by unfold RelD; exact ⟨l, us, rfl, SqT.of upd_same, hr.mono s⟩)⟩⟩
  cases d1 with
  | tup ds =>
    cases (Option.some.inj h1)
    unfold RelD at r1
    obtain ⟨a, us, rfl, h2, h3⟩ := r1
    exact ⟨a, us, rfl, .inr ⟨sqT_mono sim.same h2, q _ F H (Same.refl _) sim (by unfold RelD; exact ⟨a, us, rfl, h2, h3⟩)⟩⟩
  | lst ds =>
    cases (Option.some.inj h1)
    unfold RelD at r1
    obtain ⟨a, us, rfl, h2, h3⟩ := r1
    exact new a us h3 (SqL.of (sim.same _ _ h2))
  | ref a =>
    unfold RelD at r1
    subst r1
    obtain ⟨us, h2, h3⟩ := sim.lst h1
    exact new a us h3 (SqL.of h2)
  | _ => cases h1
/-! isinstance -/
def tyS (st : S) : D → Option String
  | .non => some "NoneType"
  | .bl _ => some "bool"
  | .int _ => some "int"
  | .str _ => some "str"
  | .tup _ => some "tuple"
  | .lst _ => some "list"
  | .dic _ _ => some "dict"
  | .ref a => match st.map a with
    | some (.lst _) => some "list"
    | some (.dic _) => some "dict"
    | _ => none
  | _ => none
theorem tyx_lst {a : Addr} {xs : List V} (h : SqL g.K H a xs) : TyX g.K H (.ref a) (.type "list") := by
  rcases h with (h | ⟨o, h⟩) | ⟨o, its, n, hk, hc, _⟩
  · exact .base (.lst h)
  · exact .base (.frz h)
  · exact .kList hk hc
theorem tyx_tup {a : Addr} {xs : List V} (h : SqT g.K H a xs) : TyX g.K H (.ref a) (.type "tuple") := by
  rcases h with (h | ⟨o, h⟩) | ⟨o, its, n, hk, hc, _⟩
  · exact .base (.tup h)
  · exact .fTuple h
  · exact .kTuple hk hc
theorem Sim.tyS {d : D} {v : V} {t : String} (s : Sim g Z st F H) (r : RelD g F d v) (h : DL.tyS st d = some t) : TyX g.K H v (.type t) := by
  cases d with
  | non => cases (Option.some.inj h); unfold RelD at r; subst r; exact .base .non
  | bl b => cases (Option.some.inj h); unfold RelD at r; subst r; exact .base (.bl b)
  | int b => cases (Option.some.inj h); unfold RelD at r; subst r; exact .base (.int b)
  | str b => cases (Option.some.inj h); unfold RelD at r; subst r; exact .base (.str b)
  | tup ds => cases (Option.some.inj h); unfold RelD at r; obtain ⟨a, vs, rfl, h1, _⟩ := r; exact tyx_tup (sqT_mono s.same h1)
  | lst ds => cases (Option.some.inj h); unfold RelD at r; obtain ⟨a, vs, rfl, h1, _⟩ := r; exact tyx_lst (SqL.of (s.same _ _ h1))
  | dic ks ds => cases (Option.some.inj h); unfold RelD at r; obtain ⟨a, vs, rfl, h1, _⟩ := r; exact .base (.dK (s.same _ _ h1))
  | ref a =>
    unfold RelD at r
    subst r
    unfold DL.tyS at h
    simp only at h
    cases m : st.map a with
    | none => rw [m] at h; cases h
    | some o =>
      rw [m] at h
      obtain ⟨_, ro⟩ := s.ob a o m
      cases o with
      | lst ds => cases (Option.some.inj h); obtain ⟨vs, e, _⟩ := ro; exact .base (.lst e)
      | dic ds => cases (Option.some.inj h); obtain ⟨vs, e, _⟩ := ro; exact .base (.dK e)
      | _ => cases h
  | _ => cases h
def subT (t m : String) : Bool := t == m || (t == "bool" && m == "int")
def baseTys : List String := ["NoneType", "bool", "int", "str", "tuple", "list", "dict"]
theorem kit_base : ∀ t ∈ baseTys, ∀ m ∈ ["bool", "int", "str", "tuple", "list", "dict"], kitB t m = some (subT t m) := by
  intro t ht m hm
  simp only [baseTys, List.mem_cons, List.not_mem_nil, or_false] at ht hm
  rcases ht with rfl | rfl | rfl | rfl | rfl | rfl | rfl <;> rcases hm with rfl | rfl | rfl | rfl | rfl | rfl <;> decide +kernel
theorem tyS_base {d : D} {t : String} (h : tyS st d = some t) : t ∈ baseTys := by
  unfold tyS at h
  split at h <;> first
    | (cases h; done)
    | (cases (Option.some.inj h); decide)
    | (split at h <;> first | (cases h; done) | (cases (Option.some.inj h); decide))
/-- own classes: cs, of which none is below another -/
structure OwnTy (g : G) (cs : List Str) : Prop where
  ins : ∀ c ∈ cs, ∀ {H : Hp} {a dx : Addr} {fs : List (Str × V)}, H a = some (.ins (g.cl c) dx fs) → TyX g.K H (.ref a) (.ref (g.cl c))
  kit : ∀ c ∈ cs, ∀ c' ∈ cs, PySem.W.kitOne g.K (.ref (g.cl c')) (.ref (g.cl c)) = some (decide (c' = c))
  base : ∀ c ∈ cs, ∀ t ∈ baseTys, PySem.W.kitOne g.K (.type t) (.ref (g.cl c)) = some false
  low : ∀ c ∈ cs, ∀ m ∈ ["bool", "int", "str", "tuple", "list", "dict"], PySem.W.kitOne g.K (.ref (g.cl c)) (.type m) = some false
def clsS (st : S) : D → Option Str
  | .ins c _ _ => some c
  | .ref a => match st.map a with
    | some (.ins c _) => some c
    | _ => none
  | _ => none
theorem Sim.clsS {d : D} {v : V} {c : Str} (s : Sim g Z st F H) (r : RelD g F d v) (h : DL.clsS st d = some c) : ∃ a dx fs, v = .ref a ∧ H a = some (.ins (g.cl c) dx fs) := by
  cases d with
  | ins c' ns vs => cases (Option.some.inj h); unfold RelD at r; obtain ⟨a, dx, fs, rfl, h1, _⟩ := r; exact ⟨a, dx, fs, rfl, s.same _ _ h1⟩
  | ref a =>
    unfold RelD at r
    subst r
    unfold DL.clsS at h
    simp only at h
    cases m : st.map a with
    | none => rw [m] at h; cases h
    | some o =>
      rw [m] at h
      obtain ⟨_, ro⟩ := s.ob a o m
      cases o with
      | ins c' ds => cases (Option.some.inj h); obtain ⟨dx, vs, e, _⟩ := ro; exact ⟨a, dx, vs, rfl, e⟩
      | _ => cases h
  | _ => cases h
/-- isinstance(x, c) -/
def isiB (cs : List Str) (st : S) (x c : D) : Option Bool := match c with
  | .ty m => if m ∈ ["bool", "int", "str", "tuple", "list", "dict"] then (match tyS st x with
      | some t => some (subT t m)
      | none => (clsS st x).bind fun c' => if c' ∈ cs then some false else none) else none
  | .cls c => if c ∈ cs then (match tyS st x with
      | some _ => some false
      | none => (clsS st x).bind fun c' => if c' ∈ cs then some (decide (c' = c)) else none) else none
  | _ => none
def isiD (cs : List Str) : PN := fun ds st => match ds with
  | [x, c] => (isiB cs st x c).map .bl
  | _ => none
theorem isiB_ok {cs : List Str} {x c : D} {b : Bool} {vx vc : V} (o : OwnTy g cs) (sim : Sim g Z st F H) (rx : RelD g F x vx) (rc : RelD g F c vc) (h : isiB cs st x c = some b) : ∃ t u, ClsV vc u ∧ TyX g.K H vx t ∧ PySem.W.kitOne g.K t u = some b := by
  unfold isiB at h
  split at h
  · rename_i m
    unfold RelD at rc
    subst rc
    split at h
    · rename_i hm
      split at h
      · rename_i t ht
        cases h
        exact ⟨_, _, .ty m, sim.tyS rx ht, kit_ty (kit_base t (tyS_base ht) m hm)⟩
      · obtain ⟨c', h1, h2⟩ := Option.bind_eq_some_iff.mp h
        split at h2
        · rename_i hc
          cases h2
          obtain ⟨a, dx, fs, rfl, ha⟩ := sim.clsS rx h1
          exact ⟨_, _, .ty m, o.ins c' hc ha, o.low c' hc m hm⟩
        · cases h2
    · cases h
  · rename_i c
    unfold RelD at rc
    subst rc
    split at h
    · rename_i hc
      split at h
      · rename_i t ht
        cases h
        exact ⟨_, _, .own _, sim.tyS rx ht, o.base c hc t (tyS_base ht)⟩
      · obtain ⟨c', h1, h2⟩ := Option.bind_eq_some_iff.mp h
        split at h2
        · rename_i hc'
          cases h2
          obtain ⟨a, dx, fs, rfl, ha⟩ := sim.clsS rx h1
          exact ⟨_, _, .own _, o.ins c' hc' ha, o.kit c hc c' hc'⟩
        · cases h2
    · cases h
  · cases h
theorem cr_isi {cs : List Str} (hK : X.K = g.K) (o : OwnTy g cs) : CallR X (.builtin "isinstance") (rN g (isiD cs)) := CallR.imp call_isi fun vs H Q ⟨Z, F, st, ds, d, sim, r, e, q⟩ => by
  unfold isiD at e
  split at e
  · rename_i x c
    obtain ⟨b, h1, rfl⟩ := Option.map_eq_some_iff.mp e
    obtain ⟨v, vs, rfl, r1, r2⟩ := r.cons_inv
    obtain ⟨v2, vs2, rfl, r3, r4⟩ := r2.cons_inv
    rw [r4.nil_inv, hK]
    obtain ⟨t, u, h2, h3, h4⟩ := isiB_ok o sim r1 r3 h1
    exact ⟨v, v2, t, u, b, rfl, h2, h3, h4, q _ F H (Same.refl _) sim relD_bl⟩
  · cases e
/-! ### list methods -/
def atL (x : D) (f : List D → Option (List D)) : M Ex D := fun s Q _ => ∃ a xs ys, x = .ref a ∧ s.map a = some (.lst xs) ∧ f xs = some ys ∧ Q .non (s.set a (.lst ys))
theorem mono_atL {x : D} {f : List D → Option (List D)} : Mono (atL x f) := fun _ _ _ _ _ hq _ ⟨a, xs, ys, h1, h2, h3, h⟩ => ⟨a, xs, ys, h1, h2, h3, hq _ _ h⟩
/-- x is a place with a list -/
def isL (x : D) (st : S) : Option Unit := match x with
  | .ref a => (obL (st.map a)).map fun _ => ()
  | _ => none
theorem isL_inv {x : D} {v : V} (sim : Sim g Z st F H) (r : RelD g F x v) (h : isL x st = some ()) : ∃ a vs, v = .ref a ∧ H a = some (.lst vs) := by
  cases x with
  | ref a =>
    obtain ⟨xs, h1, _⟩ := Option.map_eq_some_iff.mp h
    unfold RelD at r
    obtain ⟨vs, h2, _⟩ := sim.lst h1
    exact ⟨a, vs, r, h2⟩
  | _ => cases h
def atLf (f : D → S → List D → Option (List D)) (x y : D) : M Ex D := fun s Q E => atL x (f y s) s Q E
theorem mono_atLf {f : D → S → List D → Option (List D)} {x y : D} : Mono (atLf f x y) := fun _ _ _ _ _ hq he h => mono_atL _ _ _ _ _ hq he h
def listM (f : D → S → List D → Option (List D)) (o v : Env → M Ex D) : Env → M Ex D := fun ρ => bindM (o ρ) fun x => bindM (seeM (isL x)) fun _ => bindM (v ρ) fun y => atLf f x y
theorem mono_listM {f : D → S → List D → Option (List D)} {o v : Env → M Ex D} (ho : ∀ ρ, Mono (o ρ)) (hv : ∀ ρ, Mono (v ρ)) (ρ : Env) : Mono (listM f o v ρ) := mono_bind (ho ρ) fun _ => mono_bind (mono_see _) fun _ => mono_bind (hv ρ) fun _ => mono_atLf
theorem tX.listM {f : D → S → List D → Option (List D)} {o v : Env → M Ex D} {Q : VK} {r : V → List V → Hp → VK → Prop} (hK : X.K = g.K) (ho : ∀ ρ, Mono (o ρ)) (hv : ∀ ρ, Mono (v ρ)) (h : tX g (RelD g) W (DL.listM f o v) σ H Q)
    (next : ∀ {Z F H : Hp} {st : S} {a : Addr} {xs ys : List D} {vs : List V} {y : D} {vy : V}, Sim g Z st F H → H a = some (.lst vs) → st.map a = some (.lst xs) → RelDs g F xs vs → RelD g F y vy → f y st xs = some ys → (∀ us : List V, RelDs g F ys us → Q .non (upd H a (.lst us))) → r (.ref a) [vy] H Q) :
    tBM X.K "list" r (tX g (RelD g) W o) (tCons (tX g (RelD g) W v) tNil) σ H Q := by
  obtain ⟨Z, F, st, ρ, E, N, q⟩ := h
  have mk : ∀ x, Mono (bindM (v ρ) fun y => atLf f x y) := fun x => mono_bind (hv ρ) fun _ => mono_atLf
  refine tX.go (R1 := RelD g) N (ho ρ) (fun x => mono_bind (mono_see _) fun _ => mk x) q fun dx x F st H1 e1 N rx q => ?_
  obtain ⟨_, hi, q⟩ := q
  obtain ⟨a, vs, rfl, ha⟩ := isL_inv N.sim rx hi
  refine ⟨.inl ⟨rfl, vs, SqL.of ha⟩, tX.go (R1 := RelD g) N (hv ρ) (fun _ => mono_atLf) q fun dy y F st H2 e2 N ry q => ?_⟩
  obtain ⟨a', xs, ys, rfl, hm, hf, q⟩ := q
  unfold RelD at rx
  cases rx
  obtain ⟨nF, us, hu, hr⟩ := N.sim.ob a _ hm
  exact next N.sim hu hm hr ry hf fun ws rw => q .non F _ (Same.refl _) (N.sim.put nF (.inr ⟨_, hm, by intro z; cases z⟩) ⟨ws, upd_same, rw⟩) relD_non
def appF : D → S → List D → Option (List D) := fun y _ xs => if xs.length < sizeLine then some (xs ++ [y]) else none
def extF : D → S → List D → Option (List D) := fun y st xs => (lstOf st y).bind fun ys => if xs.length + ys.length ≤ sizeLine then some (xs ++ ys) else none
theorem fe_append {apos : Pos} {o v : Env → M Ex D} (hK : X.K = g.K) (ho : FE g X W e1 o) (hv : FE g X W e2 v)
    (hbase : attributeBase e1 "append" X.env (eval e1 X.env) = eval e1 X.env := by rfl)
    (hfew : ((backTo pos (starEach [e2] X.env)).all (fun x => !x.1) && (backToKw pos (keywordEach [] X.env)).all (fun x => x.1.isSome)
      && decide ([e2].length + ([] : List Keyword).length + (if ([] : List Keyword).isEmpty then 0 else 1) < 30)) = true := by rfl)
    (hline : (apos.endLine == pos.line) = true := by rfl) (hs : starEach [e2] X.env = (false, eval e2 X.env) :: starEach [] X.env := by rfl) (hplain : (backTo pos (starEach [] X.env)).any (·.1) = false := by rfl) :
    FE g X W (.Call (.Attribute e1 "append" apos) [e2] [] pos) (listM appF o v) := by
  refine ⟨PE.imp (pe_bm PySem.F.plainAttrs_list PySem.F.slot_list_append PySem.F.type_list_append mt_append ho.pe (pa_cons hv.pe pa_nil hs) hbase hfew hline hs hplain) fun σ H Q q => tX.listM hK ho.mono hv.mono q ?_, mono_listM ho.mono hv.mono⟩
  intro Z F H st a xs ys vs y vy sim ha hm hr ry hf q
  unfold appF at hf
  split at hf
  · rename_i hl
    cases hf
    exact ⟨a, vs, vy, rfl, rfl, ha, by rw [hr.len]; exact hl, q _ (hr.append (.one ry))⟩
  · cases hf
theorem fe_extend {apos : Pos} {o v : Env → M Ex D} (hK : X.K = g.K) (ho : FE g X W e1 o) (hv : FE g X W e2 v)
    (hbase : attributeBase e1 "extend" X.env (eval e1 X.env) = eval e1 X.env := by rfl)
    (hfew : ((backTo pos (starEach [e2] X.env)).all (fun x => !x.1) && (backToKw pos (keywordEach [] X.env)).all (fun x => x.1.isSome)
      && decide ([e2].length + ([] : List Keyword).length + (if ([] : List Keyword).isEmpty then 0 else 1) < 30)) = true := by rfl)
    (hline : (apos.endLine == pos.line) = true := by rfl) (hs : starEach [e2] X.env = (false, eval e2 X.env) :: starEach [] X.env := by rfl) (hplain : (backTo pos (starEach [] X.env)).any (·.1) = false := by rfl) :
    FE g X W (.Call (.Attribute e1 "extend" apos) [e2] [] pos) (listM extF o v) := by
  refine ⟨PE.imp (pe_bm PySem.F.plainAttrs_list PySem.F.slot_list_extend PySem.F.type_list_extend mt_extend ho.pe (pa_cons hv.pe pa_nil hs) hbase hfew hline hs hplain) fun σ H Q q => tX.listM hK ho.mono hv.mono q ?_, mono_listM ho.mono hv.mono⟩
  intro Z F H st a xs ys vs y vy sim ha hm hr ry hf q
  obtain ⟨zs, h1, hf⟩ := Option.bind_eq_some_iff.mp hf
  split at hf
  · rename_i hl
    cases hf
    have : ∃ b us, vy = .ref b ∧ H b = some (.lst us) ∧ RelDs g F zs us := by
      cases y with
      | lst ds =>
        cases (Option.some.inj h1)
        unfold RelD at ry
        obtain ⟨b, us, rfl, h2, h3⟩ := ry
        exact ⟨b, us, rfl, sim.same _ _ h2, h3⟩
      | ref b =>
        unfold RelD at ry
        subst ry
        obtain ⟨us, h2, h3⟩ := sim.lst h1
        exact ⟨b, us, rfl, h2, h3⟩
      | _ => cases h1
    obtain ⟨b, us, rfl, hb, hr2⟩ := this
    exact ⟨a, b, vs, us, rfl, rfl, ha, hb, by rw [hr.len, hr2.len]; exact hl, q _ (hr.append hr2)⟩
  · cases hf
end DL

/-! ### texts, dicts -/
namespace DL
open PySem L2
variable {g : G} {Z F F' H H' : Hp} {W : WX} {σ : St} {ρ : Env} {st : S} {α β γ δ : Type} {X : Cx} {e e1 e2 e3 tg : Expr} {pos : Pos}
variable {x : Str} {p : Pos} {es : List Expr} {a : Env → M Ex (List D)}
def isStr : D → Option Unit
  | .str _ => some ()
  | _ => none
/-- s.m(y) -/
def m1 (f : P2) (o v : Env → M Ex D) : Env → M Ex D := fun ρ => bindM (o ρ) fun x => bindM (seeM fun _ => isStr x) fun _ => bindM (v ρ) fun y => seeM (f x y)
theorem MtR.imp {id : String} {r r' : V → List V → Hp → VK → Prop} (h : MtR X id r) (k : ∀ x xs H Q, r' x xs H Q → r x xs H Q) : MtR X id r' := fun pins s σ H x xs v us Q I rx rs q => h pins s σ H x xs v us Q I rx rs (k _ _ _ _ q)
def rM1 (g : G) (f : P2) : V → List V → Hp → VK → Prop := fun x xs H Q => ∃ y, xs = [y] ∧ r2 g f x y H Q
theorem fe_m1 {id : String} {name : Str} {apos : Pos} {f : P2} {o v : Env → M Ex D} (slot : Slot "str" name id) (ty : typeOf (.builtin id) = pure (.type "method_descriptor")) (rule : MtR X id (rM1 g f)) (ho : FE g X W e1 o) (hv : FE g X W e2 v)
    (hs : starEach [e2] X.env = [(false, eval e2 X.env)] := by rfl) (hbase : attributeBase e1 name X.env (eval e1 X.env) = eval e1 X.env := by rfl) (hline : (apos.endLine == pos.line) = true := by rfl) :
    FE g X W (.Call (.Attribute e1 name apos) [e2] [] pos) (m1 f o v) := by
  refine ⟨PE.imp (pe_m1 slot ty rule ho.pe hv.pe hs hbase hline) fun σ H Q ⟨Z, F, st, ρ, E, N, q⟩ => ?_, fun ρ => mono_bind (ho.mono ρ) fun _ => mono_bind (mono_see _) fun _ => mono_bind (hv.mono ρ) fun _ => mono_see _⟩
  refine tX.go (R1 := RelD g) N (ho.mono ρ) (fun _ => mono_bind (mono_see _) fun _ => mono_bind (hv.mono ρ) fun _ => mono_see _) q fun dx x F st H1 e1 N rx q => ?_
  obtain ⟨_, hi, q⟩ := q
  refine ⟨?_, tX.go (R1 := RelD g) N (hv.mono ρ) (fun _ => mono_see _) q fun dy y F st H2 e2 N ry q => ?_⟩
  · cases dx with
    | str z => unfold RelD at rx; exact ⟨z, rx⟩
    | _ => cases hi
  · obtain ⟨d, ed, q⟩ := q
    exact ⟨y, rfl, Z, F, st, dx, dy, d, N.sim, rx.mono e2, ry, ed, q⟩
def str2 (f : Str → Str → Option D) : P2 := fun x y _ => match x, y with
  | .str a, .str b => f a b
  | _, _ => none
theorem str2_inv {f : Str → Str → Option D} {x y d : D} (h : str2 f x y st = some d) : ∃ a b, x = .str a ∧ y = .str b ∧ f a b = some d := by
  unfold str2 at h
  split at h
  · exact ⟨_, _, rfl, rfl, h⟩
  · cases h
def startsD : P2 := str2 fun a b => some (.bl (Txt.startswith a b))
def endsD : P2 := str2 fun a b => some (.bl (Txt.endswith a b))
def partD : P2 := str2 fun a b => if (b.length == 0) = false ∧ a.length ≤ sizeLine then some (.tup [.str (Txt.partition a b).1, .str (Txt.partition a b).2.1, .str (Txt.partition a b).2.2]) else none
def splitD : P2 := str2 fun a b => if (b.length == 0) = false ∧ a.length + 2 ≤ sizeLine then some (.lst ((Txt.split a b).map .str)) else none
theorem mr_starts : MtR X "str.startswith" (rM1 g startsD) := MtR.imp mt_startswith fun x xs H Q ⟨y, e, Z, F, st, dx, dy, d, sim, rx, ry, h, q⟩ => by
  obtain ⟨a, b, rfl, rfl, h⟩ := str2_inv h
  cases h
  unfold RelD at rx ry
  exact ⟨a, b, rx, by rw [e, ry], q _ F H (Same.refl _) sim relD_bl⟩
theorem mr_ends : MtR X "str.endswith" (rM1 g endsD) := MtR.imp mt_endswith fun x xs H Q ⟨y, e, Z, F, st, dx, dy, d, sim, rx, ry, h, q⟩ => by
  obtain ⟨a, b, rfl, rfl, h⟩ := str2_inv h
  cases h
  unfold RelD at rx ry
  exact ⟨a, b, rx, by rw [e, ry], q _ F H (Same.refl _) sim relD_bl⟩
theorem rel_strs (F : Hp) : ∀ ys : List Str, RelDs g F (ys.map .str) (ys.map V.str)
  | [] => .nil
  | y :: ys => .cons relD_str (rel_strs F ys)
theorem mr_part : MtR X "str.partition" (rM1 g partD) := MtR.imp mt_partition fun x xs H Q ⟨y, e, Z, F, st, dx, dy, d, sim, rx, ry, h, q⟩ => by
  obtain ⟨a, b, rfl, rfl, hh⟩ := str2_inv h
  clear h
  split at hh
  · rename_i hc
    cases hh
    unfold RelD at rx ry
    refine ⟨a, b, rx, by rw [e, ry], hc.1, hc.2, fun p np => ?_⟩
    have s := same_upd (o := .tup [.str (Txt.partition a b).1, .str (Txt.partition a b).2.1, .str (Txt.partition a b).2.2]) (sim.free np).1
    exact q _ _ _ s (sim.new np) (by unfold RelD; exact ⟨p, _, rfl, SqT.of upd_same, .cons relD_str (.cons relD_str (.one relD_str))⟩)
  · cases hh
theorem mr_split : MtR X "str.split" (rM1 g splitD) := MtR.imp mt_split fun x xs H Q ⟨y, e, Z, F, st, dx, dy, d, sim, rx, ry, h, q⟩ => by
  obtain ⟨a, b, rfl, rfl, hh⟩ := str2_inv h
  clear h
  split at hh
  · rename_i hc
    cases hh
    unfold RelD at rx ry
    refine ⟨a, b, rx, by rw [e, ry], hc.1, hc.2, fun p np => ?_⟩
    have s := same_upd (o := .lst ((Txt.split a b).map V.str)) (sim.free np).1
    exact q _ _ _ s (sim.new np) (by unfold RelD; exact ⟨p, _, rfl, upd_same, rel_strs _ _⟩)
  · cases hh
def strsOf : List D → Option (List Str)
  | [] => some []
  | .str z :: ds => (strsOf ds).map fun r => z :: r
  | _ :: _ => none
theorem strsOf_rel : ∀ {ds : List D} {vs : List V} {ys : List Str}, strsOf ds = some ys → RelDs g F ds vs → vs = ys.map V.str
  | [], _, _, e, r => by cases e; exact r.nil_inv
  | d :: ds, _, _, e, r => by
    obtain ⟨v, vs, rfl, r1, r2⟩ := r.cons_inv
    cases d with
    | str z =>
      obtain ⟨ys, h1, rfl⟩ := Option.map_eq_some_iff.mp e
      unfold RelD at r1
      rw [r1, strsOf_rel h1 r2]; rfl
    | _ => cases e
def joinD : P2 := fun x y st => match x with
  | .str a => (seqD st y).bind fun ds => (strsOf ds).bind fun ys => if (ys.map (·.length)).sum + ys.length * a.length ≤ 16777216 then some (.str (Txt.join a ys)) else none
  | _ => none
theorem mr_join (hK : X.K = g.K) : MtR X "str.join" (rM1 g joinD) := MtR.imp mt_join fun x xs H Q ⟨y, e, Z, F, st, dx, dy, d, sim, rx, ry, h, q⟩ => by
  cases dx with
  | str a =>
    obtain ⟨ds, h1, h⟩ := Option.bind_eq_some_iff.mp (show ((seqD st dy).bind fun ds => (strsOf ds).bind fun ys => if (ys.map (·.length)).sum + ys.length * a.length ≤ 16777216 then some (.str (Txt.join a ys)) else none) = some d from h)
    obtain ⟨ys, h2, h⟩ := Option.bind_eq_some_iff.mp h
    split at h
    · rename_i hl
      cases h
      obtain ⟨b, vs, rfl, hs, hr⟩ := sim.seq ry h1
      obtain rfl := strsOf_rel h2 hr
      unfold RelD at rx
      rw [hK]
      exact ⟨a, b, ys, rx, e, hs, hl, q _ F H (Same.refl _) sim relD_str⟩
    · cases h
  | _ => cases h
/-! ### dicts -/
def keyD : D → Option Key
  | .int i => some (.inl i)
  | .str z => some (.inr z)
  | _ => none
theorem keyD_rel {d : D} {v : V} {k : Key} (h : keyD d = some k) (r : RelD g F d v) : v = kV k := by
  cases d with
  | int i => cases h; unfold RelD at r; exact r
  | str z => cases h; unfold RelD at r; exact r
  | _ => cases h
def obK : Option Ob → Option (List (Key × D))
  | some (.dic kvs) => some kvs
  | _ => none
def dicOf (st : S) : D → Option (List (Key × D))
  | .dic ks vs => some (ks.zip vs)
  | .ref a => obK (st.map a)
  | _ => none
def valD (kvs : List (Key × D)) (k : Key) : Option D := (kvs.find? fun kv => decide (kv.1 = k)).map (·.2)
theorem valD_rel : ∀ {kds : List (Key × D)} {kvs : List (Key × V)} {k : Key}, kvs.map (·.1) = kds.map (·.1) → RelDs g F (kds.map (·.2)) (kvs.map (·.2)) → (∃ d v, valD kds k = some d ∧ valV kvs k = some v ∧ RelD g F d v) ∨ (valD kds k = none ∧ valV kvs k = none)
  | [], [], _, _, _ => .inr ⟨rfl, rfl⟩
  | [], _ :: _, _, h, _ => by cases h
  | _ :: _, [], _, h, _ => by cases h
  | (k1, d) :: kds, (k2, v) :: kvs, k, h, r => by
    injection h with h1 h2
    have h1 : k2 = k1 := h1
    subst h1
    obtain ⟨w, ws, e, r1, r2⟩ := r.cons_inv
    cases e
    unfold valD valV
    rw [List.find?_cons, List.find?_cons]
    by_cases q : k2 = k
    · rw [decide_eq_true q]
      exact .inl ⟨d, v, rfl, rfl, r1⟩
    · rw [decide_eq_false q]
      exact valD_rel h2 r2
theorem Sim.dicOf {d : D} {v : V} {kds : List (Key × D)} (s : Sim g Z st F H) (r : RelD g F d v) (h : DL.dicOf st d = some kds) : ∃ a kvs, v = .ref a ∧ H a = some (.dK kvs) ∧ kvs.map (·.1) = kds.map (·.1) ∧ RelDs g F (kds.map (·.2)) (kvs.map (·.2)) := by
  cases d with
  | dic ks vs =>
    cases (Option.some.inj h)
    unfold RelD at r
    obtain ⟨a, kvs, rfl, h1, h2, h3⟩ := r
    have hl : ks.length = vs.length := by rw [← h2, ← h3.len]; simp
    refine ⟨a, kvs, rfl, s.same _ _ h1, ?_, ?_⟩
    · rw [List.map_fst_zip (by omega)]; exact h2
    · rw [List.map_snd_zip (by omega)]; exact h3
  | ref a =>
    unfold RelD at r
    subst r
    replace h : obK (st.map a) = some kds := h
    cases m : st.map a with
    | none => rw [m] at h; cases h
    | some o =>
      rw [m] at h
      obtain ⟨_, ro⟩ := s.ob a o m
      cases o with
      | dic ds => cases (Option.some.inj h); obtain ⟨kvs, e, h1, h2⟩ := ro; exact ⟨a, kvs, rfl, e, h1, h2⟩
      | _ => cases h
  | _ => cases h
def dgetD : P2 := fun x y st => (dicOf st x).bind fun kvs => (keyD y).bind fun k => valD kvs k
theorem fe_dget {a b : Env → M Ex D} (hu : X.A.units + 1 < cLine) (ha : FE g X W e1 a) (hb : FE g X W e2 b) (hs : NoSl e2) : FE g X W (.Subscript e1 e2 pos) (op2 dgetD a b) := by
  refine ⟨PE.imp (pe_dget hu ha.pe hb.pe hs) fun σ H Q ⟨Z, F, st, ρ, E, N, q⟩ => ?_, mono_op2 ha.mono hb.mono⟩
  refine tX.go N (ha.mono ρ) (fun _ => mono_bind (hb.mono ρ) fun _ => mono_see _) q fun dx x F st H1 e N rx q => ?_
  refine tX.go (R1 := RelD g) N (hb.mono ρ) (fun _ => mono_see _) q fun dy y F2 st H2 e2 N ry q => ?_
  obtain ⟨d, ed, q⟩ := q
  obtain ⟨kds, h1, ed⟩ := Option.bind_eq_some_iff.mp ed
  obtain ⟨k, h2, h3⟩ := Option.bind_eq_some_iff.mp ed
  obtain ⟨a, kvs, rfl, h4, h5, h6⟩ := N.sim.dicOf (rx.mono e2) h1
  cases keyD_rel h2 ry
  rcases valD_rel (k := k) h5 h6 with ⟨d', v, h7, h8, h9⟩ | ⟨h7, _⟩
  · rw [h3] at h7; cases h7
    exact ⟨a, v, rfl, by rw [← h8]; exact DGet.k h4, tX.done N h9 q⟩
  · rw [h3] at h7; cases h7
def dinD : P2 := fun y x st => (dicOf st x).bind fun kvs => (keyD y).map fun k => .bl (valD kvs k).isSome
def dnotinD : P2 := fun y x st => (dicOf st x).bind fun kvs => (keyD y).map fun k => .bl (!(valD kvs k).isSome)
theorem din_go {a b : Env → M Ex D} {Q : VK} (ha : ∀ ρ, Mono (a ρ)) (hb : ∀ ρ, Mono (b ρ)) (h : tX g (RelD g) W (op2 dinD a b) σ H Q) : tDIn (tX g (RelD g) W a) (tX g (RelD g) W b) σ H Q := by
  obtain ⟨Z, F, st, ρ, E, N, q⟩ := h
  refine tX.go N (ha ρ) (fun _ => mono_bind (hb ρ) fun _ => mono_see _) q fun dy y F st H1 e N ry q => ?_
  refine tX.go (R1 := RelD g) N (hb ρ) (fun _ => mono_see _) q fun dx x F2 st H2 e2 N rx q => ?_
  obtain ⟨d, ed, q⟩ := q
  obtain ⟨kds, h1, ed⟩ := Option.bind_eq_some_iff.mp ed
  obtain ⟨k, h2, rfl⟩ := Option.map_eq_some_iff.mp ed
  obtain ⟨a, kvs, rfl, h4, h5, h6⟩ := N.sim.dicOf rx h1
  cases keyD_rel h2 ry
  refine ⟨a, _, rfl, DGet.k h4, ?_⟩
  have e3 : (valV kvs k).isSome = (valD kds k).isSome := by
    rcases valD_rel (k := k) h5 h6 with ⟨d', v, h7, h8, h9⟩ | ⟨h7, h8⟩ <;> rw [h7, h8] <;> rfl
  rw [e3]
  exact tX.done N relD_bl q
theorem ft_din {a b : Env → M Ex D} (hu : X.A.units + 1 < cLine) (ha : FE g X W e1 a) (hb : FE g X W e2 b) (h1 : behindInMarks .In e2 = false := by rfl) : FT g X W (.Compare e1 [.In] [e2] pos) (liftT (op2 dinD a b)) :=
  ⟨PT.imp (pt_cmp (pc_din hu ha.pe hb.pe) h1) fun σ H Q q => din_go ha.mono hb.mono (tX.test (mono_op2 ha.mono hb.mono) q), mono_liftT (mono_op2 ha.mono hb.mono)⟩
/-- d[k] = v, at a place -/
def putKD (kvs : List (Key × D)) (k : Key) (v : D) : List (Key × D) :=
  if (kvs.any fun kv => decide (kv.1 = k)) = true then kvs.map (fun kv => if kv.1 = k then (kv.1, v) else kv) else kvs ++ [(k, v)]
theorem putKD_rel {kds : List (Key × D)} {kvs : List (Key × V)} {k : Key} {d : D} {v : V} (rv : RelD g F d v) (h : kvs.map (·.1) = kds.map (·.1)) (r : RelDs g F (kds.map (·.2)) (kvs.map (·.2))) :
    (putK kvs k v).map (·.1) = (putKD kds k d).map (·.1) ∧ RelDs g F ((putKD kds k d).map (·.2)) ((putK kvs k v).map (·.2)) := by
  have ha : (kvs.any fun kv => decide (kv.1 = k)) = (kds.any fun kv => decide (kv.1 = k)) := by
    have e1 : (kvs.any fun kv => decide (kv.1 = k)) = (kvs.map (·.1)).any fun q => decide (q = k) := by rw [List.any_map]; rfl
    have e2 : (kds.any fun kv => decide (kv.1 = k)) = (kds.map (·.1)).any fun q => decide (q = k) := by rw [List.any_map]; rfl
    rw [e1, e2, h]
  unfold putK putKD
  rw [ha]
  by_cases q : (kds.any fun kv => decide (kv.1 = k)) = true
  · rw [if_pos q, if_pos q]
    clear ha q
    induction kds generalizing kvs with
    | nil =>
      cases kvs with
      | nil => exact ⟨rfl, .nil⟩
      | cons _ _ => cases h
    | cons kd kds ih =>
      cases kvs with
      | nil => cases h
      | cons kv kvs =>
        obtain ⟨k1, d1⟩ := kd
        obtain ⟨k2, v1⟩ := kv
        injection h with h1 h2
        have h1 : k2 = k1 := h1
        subst h1
        obtain ⟨w, ws, e, r1, r2⟩ := r.cons_inv
        cases e
        obtain ⟨i1, i2⟩ := ih h2 r2
        by_cases q : k2 = k
        · simp only [List.map_cons, q, if_true] at i1 i2 ⊢
          exact ⟨by rw [i1], .cons rv i2⟩
        · simp only [List.map_cons, q, if_false] at i1 i2 ⊢
          exact ⟨by rw [i1], .cons r1 i2⟩
  · rw [if_neg q, if_neg q, List.map_append, List.map_append, List.map_append, List.map_append, h]
    exact ⟨rfl, r.append (.one rv)⟩
def setKey (x k v : D) : M (Ex × Env) Unit := fun s Q _ => ∃ a kvs key, x = .ref a ∧ s.map a = some (.dic kvs) ∧ keyD k = some key ∧ kvs.length < sizeLine ∧ Q () (s.set a (.dic (putKD kvs key v)))
theorem mono_setKey {x k v : D} : Mono (setKey x k v) := fun _ _ _ _ _ hq _ ⟨a, kvs, key, h1, h2, h3, h4, h⟩ => ⟨a, kvs, key, h1, h2, h3, h4, hq _ _ h⟩
def keyS (o i v : Env → M Ex D) : Env → MS := fun ρ => bindM (up ρ (v ρ)) fun y => bindM (up ρ (o ρ)) fun x => bindM (up ρ (i ρ)) fun k => bindM (setKey x k y) fun _ => pureM (.nx ρ)
theorem fs_dput {o i v : Env → M Ex D} {p' : Pos} (hu : X.A.units + 1 < cLine) (ho : FE g X W e1 o) (hi : FE g X W e2 i) (hv : FE g X W e3 v) (hs : swapsWith e3 (some (.Subscript e1 e2 p')) pos.line X.env = pure false := by rfl) :
    FS g X W (.Assign [.Subscript e1 e2 p'] e3 pos) (keyS o i v) := by
  have m3 : ∀ ρ y x k, Mono (bindM (setKey x k y) fun _ => (pureM (.nx ρ) : MS)) := fun ρ y x k => mono_bind mono_setKey fun _ => mono_pure _
  have m2 : ∀ ρ y x, Mono (bindM (up ρ (i ρ)) fun k => bindM (setKey x k y) fun _ => (pureM (.nx ρ) : MS)) := fun ρ y x => mono_bind (mono_up (hi.mono ρ)) (m3 ρ y x)
  have m1 : ∀ ρ y, Mono (bindM (up ρ (o ρ)) fun x => bindM (up ρ (i ρ)) fun k => bindM (setKey x k y) fun _ => (pureM (.nx ρ) : MS)) := fun ρ y => mono_bind (mono_up (ho.mono ρ)) (m2 ρ y)
  refine ⟨PS.imp (ps_dput hu ho.pe hi.pe hv.pe hs) fun D σ H ⟨Z, F, st, ρ, E, N, q⟩ => tS.go N (hv.mono ρ) (m1 ρ) q fun dy y F st H1 e N ry q => tS.go (R1 := RelD g) N (ho.mono ρ) (m2 ρ _) q fun dx x F2 st H2 e2 N rx q => tS.go (R1 := RelD g) N (hi.mono ρ) (m3 ρ _ _) q fun dk k F3 st H3 e3 N rk q => ?_,
    fun ρ => mono_bind (mono_up (hv.mono ρ)) (m1 ρ)⟩
  obtain ⟨a, kds, key, rfl, hm, hk, hl, q⟩ := q
  unfold RelD at rx
  subst rx
  obtain ⟨nF, kvs, h1, h2, h3⟩ := N.sim.ob a _ hm
  cases keyD_rel hk rk
  have hlen : kvs.length = kds.length := by have := congrArg List.length h2; simpa using this
  obtain ⟨h4, h5⟩ := putKD_rel (k := key) ((ry.mono e2).mono e3) h2 h3
  exact ⟨a, _, rfl, DPut.k h1 (by omega), q σ F3 _ (Same.refl _) (N.sim.put nF (.inr ⟨_, hm, by intro z; cases z⟩) ⟨_, upd_same, h4, h5⟩) N.env⟩
end DL

/-! ### mirrors are monotone: by instances -/
namespace DL
open PySem L2
class MB {ε α : Type} (m : Env → M ε α) : Prop where
  mono : ∀ ρ, Mono (m ρ)
class MD (m : List D → M Ex D) : Prop where
  mono : ∀ ds, Mono (m ds)
class MF (m : Fn) : Prop where
  mono : MonoF m
section
variable {ε α : Type} {a b c : Env → M Ex D} {t u : Env → M Ex Bool} {as ks : Env → M Ex (List D)} {s r : Env → MS} {m : Fn} {d : List D → M Ex D} {mi : Env → M Ex Src} {l h : Env → M Ex (Option Int)}
instance (i : Nat) : MB (var i) := ⟨mono_var i⟩
instance (x : D) : MB (cst x) := ⟨fun _ => mono_pure _⟩
instance [MB a] : MB (liftT a) := ⟨mono_liftT MB.mono⟩
instance [MB t] : MB (notT t) := ⟨fun ρ => mono_bind (MB.mono ρ) fun _ => mono_pure _⟩
instance [MB t] [MB u] : MB (andT t u) := ⟨mono_andT MB.mono MB.mono⟩
instance [MB t] [MB u] : MB (orT t u) := ⟨mono_orT MB.mono MB.mono⟩
instance [MB t] : MB (boolE t) := ⟨fun ρ => mono_bind (MB.mono ρ) fun _ => mono_pure _⟩
instance [MB a] [MB b] : MB (andE a b) := ⟨fun ρ => mono_bind (mono_liftT MB.mono ρ) fun _ => mono_ite (MB.mono ρ) (mono_pure _)⟩
instance [MB a] [MB b] : MB (orE a b) := ⟨fun ρ => mono_bind (mono_liftT MB.mono ρ) fun _ => mono_ite (mono_pure _) (MB.mono ρ)⟩
instance [MB a] : MB (notE a) := ⟨fun ρ => mono_bind (mono_liftT MB.mono ρ) fun _ => mono_pure _⟩
instance [MB t] [MB a] [MB b] : MB (iteE t a b) := ⟨fun ρ => mono_bind (MB.mono ρ) fun _ => mono_ite (MB.mono ρ) (MB.mono ρ)⟩
instance : MB argsN := ⟨fun _ => mono_pure _⟩
instance [MB a] [MB as] : MB (argsC a as) := ⟨fun ρ => mono_bind (MB.mono ρ) fun _ => mono_bind (MB.mono ρ) fun _ => mono_pure _⟩
instance (p : P2) [MB a] [MB b] : MB (op2 p a b) := ⟨mono_op2 MB.mono MB.mono⟩
instance (p q : P2) [MB a] [MB b] [MB c] : MB (chainE p q a b c) := ⟨mono_chainE MB.mono MB.mono MB.mono⟩
instance : MB partN := ⟨fun _ => mono_pure _⟩
instance [MB a] : MB (partS a) := ⟨fun ρ => mono_bind (MB.mono ρ) fun _ => mono_bind (mono_asI _) fun _ => mono_pure _⟩
instance [MB a] [MB l] [MB h] : MB (sliceE a l h) := ⟨fun ρ => mono_bind (MB.mono ρ) fun _ => mono_bind (MB.mono ρ) fun _ => mono_bind (MB.mono ρ) fun _ => mono_see _⟩
instance [MB as] : MB (tupE as) := ⟨mono_tupE MB.mono⟩
instance [MB as] : MB (lstE as) := ⟨fun ρ => mono_bind (MB.mono ρ) fun _ => mono_bind (mono_need _) fun _ => mono_pure _⟩
instance [MB as] : MB (lstN as) := ⟨fun ρ => mono_bind (MB.mono ρ) fun _ => mono_bind (mono_need _) fun _ => mono_new⟩
instance : MB dicN := ⟨fun _ => mono_new⟩
instance (k f : Str) [MB a] : MB (fldE k f a) := ⟨fun ρ => mono_bind (MB.mono ρ) fun _ => mono_see _⟩
instance (f : PN) [MB as] : MB (prim f as) := ⟨mono_prim MB.mono⟩
instance (f : P2) [MB a] [MB b] : MB (m1 f a b) := ⟨fun ρ => mono_bind (MB.mono ρ) fun _ => mono_bind (mono_see _) fun _ => mono_bind (MB.mono ρ) fun _ => mono_see _⟩
instance (f : D → S → List D → Option (List D)) [MB a] [MB b] : MB (listM f a b) := ⟨mono_listM MB.mono MB.mono⟩
instance [MF m] [MB as] [MB ks] : MB (callE m as ks) := ⟨mono_callE MF.mono MB.mono MB.mono⟩
instance (k n : Str) [MF m] [MB a] [MB as] [MB ks] : MB (methE k n m a as ks) := ⟨fun ρ => mono_bind (MB.mono ρ) fun x => mono_bind (mono_see _) fun _ => mono_callE (MonoF.cons MF.mono x) MB.mono MB.mono ρ⟩
instance (n : Nat) (dd : List D) [MD d] : MF (posF n dd d) := ⟨mono_posF MD.mono⟩
instance (n j : Nat) (gD : List D → List D → List D) [MD d] : MF (kwF n j gD d) := ⟨mono_kwF MD.mono⟩
instance (k : Str) [MF m] : MF (mkM k m stay) := ⟨mono_mkM MF.mono fun _ => mono_pure _⟩
instance (k : Str) [MF m] : MF (mkM k m freeze) := ⟨mono_mkM MF.mono mono_freeze⟩
instance (k : Str) [MF m] : MF (fun ds es => m (.cls k :: ds) es) := ⟨MonoF.cons MF.mono _⟩
instance [MB a] : MB (iterL a) := ⟨fun ρ => mono_bind (MB.mono ρ) fun _ => mono_see _⟩
instance [MB a] : MB (iterT a) := ⟨fun ρ => mono_bind (MB.mono ρ) fun _ => mono_see _⟩
instance [MB a] : MB (iterS a) := ⟨fun ρ => mono_bind (MB.mono ρ) fun _ => mono_see _⟩
instance (q : List D → Option Src) [MB as] : MB (iterR q as) := ⟨fun ρ => mono_bind (MB.mono ρ) fun _ => mono_see _⟩
instance [MB as] : MB (iterEL as) := ⟨fun ρ => mono_bind (MB.mono ρ) fun _ => mono_see _⟩
instance [MB as] : MB (iterET as) := ⟨fun ρ => mono_bind (MB.mono ρ) fun _ => mono_see _⟩
instance [MB as] : MB (iterZ as) := ⟨fun ρ => mono_bind (MB.mono ρ) fun _ => mono_see _⟩
instance : MB yesT := ⟨fun _ => mono_pure _⟩
instance (own : List Nat) (f : D → Env → Option Env) [MB mi] [MB t] [MB a] : MB (lcE mi own f t a outF) := ⟨mono_lcE MB.mono MB.mono MB.mono fun _ => mono_pure _⟩
instance (own : List Nat) (f : D → Env → Option Env) [MB mi] [MB t] [MB a] : MB (lcE mi own f t a outN) := ⟨mono_lcE MB.mono MB.mono MB.mono fun _ => mono_new⟩
instance [MB s] [MB r] : MB (seqS s r) := ⟨mono_seqS MB.mono MB.mono⟩
instance : MB nilS := ⟨fun _ => mono_pure _⟩
instance [MB a] : MB (retS a) := ⟨fun ρ => mono_bind (mono_up (MB.mono ρ)) fun _ => mono_pure _⟩
instance : MB retN := ⟨fun _ => mono_pure _⟩
instance [MB a] : MB (exprS a) := ⟨fun ρ => mono_bind (mono_up (MB.mono ρ)) fun _ => mono_pure _⟩
instance [MB t] [MB s] [MB r] : MB (ifS t s r) := ⟨fun ρ => mono_bind (mono_up (MB.mono ρ)) fun _ => mono_ite (MB.mono ρ) (MB.mono ρ)⟩
instance (i : Nat) [MB a] : MB (setS i a) := ⟨fun ρ => mono_bind (mono_up (MB.mono ρ)) fun _ => mono_pure _⟩
instance : MB bkS := ⟨fun _ => mono_pure _⟩
instance : MB ctS := ⟨fun _ => mono_pure _⟩
instance (f : D → Env → Option Env) [MB a] : MB (asgS f a) := ⟨fun ρ => mono_bind (mono_up (MB.mono ρ)) fun d => by
  show Mono ((match f d ρ with | some ρ' => pureM (.nx ρ') | none => failM) : MS)
  split
  · exact mono_pure _
  · exact mono_fail⟩
instance (f : D → Env → Option Env) [MB mi] [MB s] : MB (forS mi f s) := ⟨fun ρ => mono_bind (mono_up (MB.mono ρ)) fun p => mono_loopS MB.mono _ _⟩
instance [MB t] [MB s] : MB (whileS t s) := ⟨fun ρ s _ _ _ _ hq he ⟨n, q⟩ => ⟨n, mono_whileN MB.mono MB.mono n ρ _ _ _ _ _ hq he q⟩⟩
instance (i : Nat) : MB (freezeS i) := ⟨mono_freezeS i⟩
instance (k f : Str) [MB a] [MB b] : MB (fldS k f a b) := ⟨fun ρ => mono_bind (mono_up (MB.mono ρ)) fun _ => mono_bind (mono_up (MB.mono ρ)) fun _ => mono_bind mono_setFld fun _ => mono_pure _⟩
instance [MB a] [MB b] [MB c] : MB (keyS a b c) := ⟨fun ρ => mono_bind (mono_up (MB.mono ρ)) fun _ => mono_bind (mono_up (MB.mono ρ)) fun _ => mono_bind (mono_up (MB.mono ρ)) fun _ => mono_bind mono_setKey fun _ => mono_pure _⟩
instance (n : Nat) [MB s] : MD (defM n s) := ⟨mono_defM MB.mono⟩
instance (i : Nat) (x : D) [MB a] : MB (fun ρ => bindM (needM (ρ[i]? = some (some x))) fun _ => a ρ) := ⟨fun ρ => mono_bind (mono_need _) fun _ => MB.mono ρ⟩
end
/-! ### draws -/
def drawF : List D → M Ex D := fun ds s Q _ => ∃ b c l, ds = [.ref b, .int l] ∧ s.map b = some (.bag c) ∧ 0 < l ∧ l < 2 ^ 200 ∧ ∀ v : Int, 0 ≤ v → v < l → Q (.int v) s
instance : MD drawF := ⟨fun ds s _ _ _ _ hq _ ⟨b, c, l, h1, h2, h3, h4, h⟩ => ⟨b, c, l, h1, h2, h3, h4, fun v v0 v1 => hq _ _ (h v v0 v1)⟩⟩
def bagF : List D → M Ex D := fun ds s Q _ => ds = [.scr] ∧ ∀ b c, b ≠ c → s.map b = none → s.map c = none → Q (.ref b) ((s.set c .raw).set b (.bag c))
instance : MD bagF := ⟨fun ds s _ _ _ _ hq _ ⟨h1, h⟩ => ⟨h1, fun b c n n1 n2 => hq _ _ (h b c n n1 n2)⟩⟩
/-- the heap without the bag and its numbers -/
def hidB (H : Hp) (b c : Addr) : Hp := fun q => if q = b ∨ q = c then none else H q
theorem hidB_same {H : Hp} {b c : Addr} : Same (hidB H b c) H := fun q u h => by
  unfold hidB at h
  split at h
  · cases h
  · exact h
theorem hidB_b {H : Hp} {b c : Addr} : hidB H b c b = none := if_pos (.inl rfl)
theorem hidB_c {H : Hp} {b c : Addr} : hidB H b c c = none := if_pos (.inr rfl)
theorem hidB_at {H : Hp} {b c q : Addr} (h1 : q ≠ b) (h2 : q ≠ c) : hidB H b c q = H q := if_neg fun h => h.elim h1 h2
/-- behind a draw -/
theorem Sim.drawn {g : G} {Z F H H' : Hp} {st : S} {b c : Addr} (s : Sim g Z st F H) (hb : st.map b = some (.bag c)) (e : Same (hidB H b c) H')
    (h' : ∃ (ns : List Int) (seed cnt pos left big : Int), H' c = some (.lst (ns.map V.int)) ∧ H' b = some (.lst [.ref c, .int seed, .int cnt, .int pos, .int left, .int big]) ∧ 0 ≤ pos) : Sim g Z st F H' := by
  obtain ⟨nFb, mc, sd, cn, ps, lf, bg, hb1, p0⟩ := s.ob b _ hb
  obtain ⟨nFc, ns0, hc1⟩ := s.ob c _ mc
  obtain ⟨ns, sd', cn', ps', lf', bg', hc2, hb2, p0'⟩ := h'
  refine ⟨fun q u h => e q u ?_, fun a o m => ?_, fun a o m => ?_⟩
  · rw [hidB_at (by rintro rfl; rw [nFb] at h; cases h) (by rintro rfl; rw [nFc] at h; cases h)]; exact s.same _ _ h
  · by_cases h1 : a = b
    · subst h1; rw [hb] at m; cases m
      exact ⟨nFb, mc, sd', cn', ps', lf', bg', hb2, p0'⟩
    · by_cases h2 : a = c
      · subst h2; rw [mc] at m; cases m
        exact ⟨nFc, ns, hc2⟩
      · obtain ⟨f, r⟩ := s.ob a o m
        obtain ⟨u, hu⟩ := r.there
        exact ⟨f, r.move (Same.refl _) ((e a u (by rw [hidB_at h1 h2]; exact hu)).trans hu.symm) fun _ z => z⟩
  · obtain ⟨f, m1, h⟩ := s.pin a o m
    exact ⟨f, m1, e a o (by rw [hidB_at (by rintro rfl; rw [hb] at m1; cases m1) (by rintro rfl; rw [mc] at m1; cases m1)]; exact h)⟩
end DL

/-! ### what is never reached, docstrings, raises not taken; draws proved; the head's facts -/
namespace DL
open PySem L2
variable {g : G} {W : WX} {X : Cx} {pos : Pos}
def neverS : Env → MS := fun _ => failM
instance : MB neverS := ⟨fun _ => mono_fail⟩
theorem fs_never {s : Stmt} : FS g X W s neverS := ⟨⟨fun _ _ _ _ _ _ ⟨_, _, _, _, _, _, q⟩ => q.elim⟩, fun _ => mono_fail⟩
/-- a def that lets nothing out is one that may -/
theorem FnOk.up {P : Program} {w : World} {K : PySem.W.Frag} {mg : Str → Option Value} {base : Heap} {k : Nat} {f : Addr} {fd : FuncData} {ps : List Str} {sp : Sp} {CX : CXT} (Fo : FnOk P w K mg base CX0 k f fd ps sp) : FnOk P w K mg base CX k f fd ps sp :=
  ⟨Fo.len, fun A outer s H args us vs Q E hr e0 hb r h => codeAny_mono (Fo.run A outer s H args us vs Q E hr e0 hb r h) fun r s' hq => by
    cases r with
    | error e => exact hq.elim
    | ok fl => cases fl <;> exact hq⟩
/-- a def with defaults that lets nothing out -/
theorem okD0 {P : Program} {w : World} {K : PySem.W.Frag} {mg : Str → Option Value} {base : Heap} {x qual : Str} {params : Arguments} {body : List Stmt} {scope : Scope} {dvs : List V} {kws : List (Str × V)} {f : Addr} {fd : FuncData} {N ps : List Str} {k : Nat} {sp : Sp}
    (F : FunD K x qual params body scope dvs kws f fd) (S : FnScope N ps scope) (len : ∀ vs H Q E, sp vs H Q E → vs.length = ps.length)
    (hbody : ∀ (cdv : Value) (A : Around) (outer : List PySem.Env) (s : Shared) (H : Hp) (vs : List V) (Q : VK) (E : XK), Room k (A.deeper (PyProof.Rows.envOfC qual scope s.heap.objs.size f cdv)) → sp vs H Q E →
      ∃ t, PSs (cxOf CX0 P w K mg base N qual scope f cdv A outer s H E).nox body t ∧ t { nx := fun _ H' => Q .non H', rt := Q } (L2.start N vs) H) : FnOk P w K mg base CX0 (k + 1) f fd ps sp :=
  F.ok (CX := CX0) S len fun cdv A outer s H vs Q E hr h => let ⟨t, a, b⟩ := hbody cdv A outer s H vs Q E hr h; ⟨t, a.nox, b⟩
/-! ### the head's facts -/
structure Df where
  at_ : PySem.W.Frag → Addr
  name : Str
  qual : Str
  params : Arguments
  body : List Stmt
  scope : Scope
  dfl : List He.Dv := []
  kwd : List (Str × He.Dv) := []
def Df.fw (K : PySem.W.Frag) (d : Df) : He.FnW := match K.lookup (d.at_ K) with
  | some ⟨_, _, .func fd, _⟩ => some (fd.name, fd.qualname, fd.params, fd.body, fd.scope, fd.globals, fd.closure, fd.builtins)
  | _ => none
def Df.val (d : Df) : He.FnW := some (d.name, d.qual, d.params, .stmts d.body, d.scope, mainGlobals, [], builtinsNs)
def Df.dvs (K : PySem.W.Frag) (d : Df) : List V := d.dfl.map (He.Dv.v K)
def Df.kws (K : PySem.W.Frag) (d : Df) : List (Str × V) := d.kwd.map fun q => (q.1, q.2.v K)
def Df.ok (K : PySem.W.Frag) (d : Df) : Bool := PySem.W.keepIn K (.ref (d.at_ K)) && (match K.lookup (d.at_ K) with
  | some ⟨_, _, .func fd, _⟩ => PySem.W.codeIn K fd.code d.qual && (He.dflB K fd.defaults (d.dvs K) && He.kwdB K fd.kwdefaults (d.kws K))
  | _ => false)
theorem Df.funD {K : PySem.W.Frag} {d : Df} (e : d.fw K = d.val) (c : d.ok K = true) : ∃ fd, FunD K d.name d.qual d.params d.body d.scope (d.dvs K) (d.kws K) (d.at_ K) fd := by
  obtain ⟨kp, c2⟩ := He.ba c
  unfold Df.fw at e
  cases q : K.lookup (d.at_ K) with
  | none =>
    rw [q] at c2
    cases c2
  | some o =>
    obtain ⟨oc, od, dt, osl⟩ := o
    rw [q] at c2 e
    cases dt with
    | func fd =>
      obtain ⟨n1, n2, n3, n4, n5, n6, n7, n8, n9, n10, n11, n12, n13, n14, n15⟩ := fd
      have e2 : (some (n1, n2, n3, n4, n5, n6, n7, n15) : He.FnW) = some (d.name, d.qual, d.params, .stmts d.body, d.scope, mainGlobals, [], builtinsNs) := e
      simp only [Option.some.injEq, Prod.mk.injEq] at e2
      obtain ⟨h1, h2, h3, h4, h5, h6, h7, h8⟩ := e2
      subst h1 h2 h3 h4 h5 h6 h7 h8
      have c3 : (PySem.W.codeIn K n13 d.qual && (He.dflB K n8 (d.dvs K) && He.kwdB K n9 (d.kws K))) = true := c2
      obtain ⟨k1, k2⟩ := He.ba c3
      obtain ⟨k3, k4⟩ := He.ba k2
      exact ⟨_, ⟨oc, od, n8, n9, n10, n11, n12, n13, n14, osl, rfl, q, k1, He.dflB_ok k3, He.kwdB_ok k4⟩, kp⟩
    | _ => cases c2
abbrev AlN : Type := (Bool × List He.FnW) × List (Option (List (Option (Str × Int))))
def obsN (fb : List (PySem.W.Frag → Bool)) (fn : List Df) (ts : List He.Tab) (K : PySem.W.Frag) : AlN := (((fb.all fun f => f K) && fn.all fun d => d.ok K, fn.map fun d => d.fw K), ts.map fun t => He.dicW K (t.1 K))
def valN (fn : List Df) (ts : List He.Tab) (w : World) : AlN := ((true, fn.map Df.val), ts.map fun t => some (He.keysIn w.params t.2))
def SaysN (fb : List (PySem.W.Frag → Bool)) (fn : List Df) (ts : List He.Tab) (w : World) (K : PySem.W.Frag) : Prop := obsN fb fn ts K = valN fn ts w
def obsNG (n : Nat) (fb : List (PySem.W.Frag → Bool)) (fn : List Df) (ts : List He.Tab) (g : Addr → Option Obj) : AlN := obsN fb fn ts (He.frG g (He.asD g n ++ [cStatics]))
def hookN (n : Nat) (fb : List (PySem.W.Frag → Bool)) (fn : List Df) (ts : List He.Tab) : PySem.W.Hook where
  α := AlN
  obs := fun s => obsNG n fb fn ts s.heap.get?
  val := fun w => valN fn ts w
  says := fun w h => ∃ K : PySem.W.Frag, K.In h ∧ SaysN fb fn ts w K
  of := fun _ _ e => ⟨_, He.frG_in, e⟩
  keeps := fun _ _ _ ⟨K, hK, c⟩ k => ⟨K, PySem.W.Frag.In.keeps hK k, c⟩
theorem obsNG_eq {n : Nat} {fb : List (PySem.W.Frag → Bool)} {fn : List Df} {ts : List He.Tab} {g : Addr → Option Obj} {s : Shared} (h : ∀ a, g a = s.heap.get? a) : obsNG n fb fn ts g = (hookN n fb fn ts).obs s := by
  have e : g = s.heap.get? := funext h
  rw [e] <;> rfl
section
variable {fb : List (PySem.W.Frag → Bool)} {fn : List Df} {ts : List He.Tab} {w : World} {K : PySem.W.Frag}
theorem SaysN.all (c : SaysN fb fn ts w K) : (fb.all fun f => f K) = true := (He.ba (show ((fb.all fun f => f K) && fn.all fun d => d.ok K) = true from congrArg (fun z : AlN => z.1.1) c)).1
theorem SaysN.fact (c : SaysN fb fn ts w K) (i : Nat) {f : PySem.W.Frag → Bool} (h : fb[i]? = some f := by rfl) : f K = true := by
  have c1 := (He.ba (show ((fb.all fun f => f K) && fn.all fun d => d.ok K) = true from congrArg (fun z : AlN => z.1.1) c)).1
  exact List.all_eq_true.mp c1 f (List.mem_of_getElem? h)
theorem SaysN.def_ (c : SaysN fb fn ts w K) (i : Nat) {d : Df} (h : fn[i]? = some d := by rfl) : ∃ fd, FunD K d.name d.qual d.params d.body d.scope (d.dvs K) (d.kws K) (d.at_ K) fd := by
  have c2 := (He.ba (show ((fb.all fun f => f K) && fn.all fun d => d.ok K) = true from congrArg (fun z : AlN => z.1.1) c)).2
  have e : fn.map (fun d => d.fw K) = fn.map Df.val := congrArg (fun z : AlN => z.1.2) c
  have e2 : (fn.map fun d => d.fw K)[i]? = (fn.map Df.val)[i]? := by rw [e]
  rw [List.getElem?_map, List.getElem?_map, h] at e2
  exact Df.funD (Option.some.inj e2) (List.all_eq_true.mp c2 d (List.mem_of_getElem? h))
theorem SaysN.tab (c : SaysN fb fn ts w K) (i : Nat) {t : He.Tab} (h : ts[i]? = some t := by rfl) : ∃ es n, KDict K w (t.1 K) es n := by
  have e : ts.map (fun t => He.dicW K (t.1 K)) = ts.map fun t => some (He.keysIn w.params t.2) := congrArg (fun z : AlN => z.2) c
  have e2 : (ts.map fun t => He.dicW K (t.1 K))[i]? = (ts.map fun t => some (He.keysIn w.params t.2))[i]? := by rw [e]
  rw [List.getElem?_map, List.getElem?_map, h] at e2
  exact He.dicW_ok (Option.some.inj e2)
end
end DL

/-! ### facts of the written part by tests; the end -/
namespace DL
open PySem L2
abbrev gK (K : PySem.W.Frag) : G := ⟨K, fun c => He.ga K c, fun c => He.ga K c⟩
def vOf : Value → V
  | .none => .non
  | .bool b => .bl b
  | .int i _ => .int i
  | .str x _ => .str x
  | .ref a => .ref a
  | .type n => .ty n
  | _ => .non
mutual
/-- the datum d stands written as the value u -/
def relW (K : PySem.W.Frag) : D → Value → Bool
  | .non, u => decide (u = .none)
  | .bl b, u => decide (u = .bool b)
  | .int i, u => (match u with
    | .int j _ => decide (j = i)
    | _ => false)
  | .str z, u => (match u with
    | .str y _ => decide (y = z)
    | _ => false)
  | .tup ds, u => (match u with
    | .ref a => (match K.lookup a with
      | some ⟨.type c, _, .seq its _, _⟩ => decide (c = "tuple") && (decide (its.size ≤ sizeLine) && relWs K ds its.toList)
      | _ => false)
    | _ => false)
  | _, _ => false
def relWs (K : PySem.W.Frag) : List D → List Value → Bool
  | [], us => us.isEmpty
  | d :: ds, us => (match us with
    | u :: r => relW K d u && relWs K ds r
    | [] => false)
end
section
variable {K : PySem.W.Frag} {g : G}
mutual
theorem relW_ok (hK : g.K = K) : ∀ {d : D} {u : Value}, relW K d u = true → RelV (vOf u) u ∧ ∀ F, RelD g F d (vOf u)
  | .non, u, h => by unfold relW at h; cases of_decide_eq_true h; exact ⟨rfl, fun _ => relD_non⟩
  | .bl b, u, h => by unfold relW at h; cases of_decide_eq_true h; exact ⟨rfl, fun _ => relD_bl⟩
  | .int i, u, h => by
    unfold relW at h
    cases u with
    | int j t => cases of_decide_eq_true h; exact ⟨⟨t, rfl⟩, fun _ => relD_int⟩
    | _ => cases h
  | .str z, u, h => by
    unfold relW at h
    cases u with
    | str j t => cases of_decide_eq_true h; exact ⟨⟨t, rfl⟩, fun _ => relD_str⟩
    | _ => cases h
  | .tup ds, u, h => by
    unfold relW at h
    cases u with
    | ref a =>
      refine ⟨rfl, fun F => ?_⟩
      simp only at h
      cases q : K.lookup a with
      | none => rw [q] at h; cases h
      | some o =>
        obtain ⟨oc, od, dt, osl⟩ := o
        rw [q] at h
        cases oc with
        | type c =>
          cases dt with
          | seq its n =>
            obtain ⟨h1, h2⟩ := He.ba (show (decide (c = "tuple") && (decide (its.size ≤ sizeLine) && relWs K ds its.toList)) = true from h)
            obtain ⟨h3, h4⟩ := He.ba h2
            obtain ⟨h5, h6⟩ := relWs_ok hK h4
            unfold RelD
            refine ⟨a, its.toList.map vOf, rfl, ?_, h6 F⟩
            rw [hK]
            exact .inr ⟨_, its, n, q, congrArg Value.type (of_decide_eq_true h1), rfl, of_decide_eq_true h3, h5⟩
          | _ => cases h
        | _ => cases dt <;> cases h
    | _ => cases h
  | .lst _, _, h => by unfold relW at h; cases h
  | .dic _ _, _, h => by unfold relW at h; cases h
  | .ins _ _ _, _, h => by unfold relW at h; cases h
  | .ref _, _, h => by unfold relW at h; cases h
  | .cls _, _, h => by unfold relW at h; cases h
  | .cst _, _, h => by unfold relW at h; cases h
  | .ty _, _, h => by unfold relW at h; cases h
  | .scr, _, h => by unfold relW at h; cases h
theorem relWs_ok (hK : g.K = K) : ∀ {ds : List D} {us : List Value}, relWs K ds us = true → Vals (us.map vOf) us ∧ ∀ F, RelDs g F ds (us.map vOf)
  | [], us, h => by
    unfold relWs at h
    cases us with
    | nil => exact ⟨.nil, fun _ => .nil⟩
    | cons _ _ => cases h
  | d :: ds, us, h => by
    unfold relWs at h
    cases us with
    | nil => cases h
    | cons u r =>
      obtain ⟨h1, h2⟩ := He.ba h
      obtain ⟨a1, a2⟩ := relW_ok hK h1
      obtain ⟨b1, b2⟩ := relWs_ok hK h2
      exact ⟨.cons a1 b1, fun F => .cons (a2 F) (b2 F)⟩
end
def intG (K : PySem.W.Frag) (x : Str) (i : Int) : Bool := match PySem.W.nsIn K mainGlobals x with
  | some (some (.int j _)) => decide (j = i)
  | _ => false
def strG (K : PySem.W.Frag) (x z : Str) : Bool := match PySem.W.nsIn K mainGlobals x with
  | some (some (.str y _)) => decide (y = z)
  | _ => false
theorem intG_ok {h : Heap} {mg : Str → Option Value} (X : K.In h) (G : h.Ns mainGlobals mg) {x : Str} {i : Int} (c : intG K x i = true) : ∃ t, mg x = some (.int i t) := He.int_ok X G c
theorem strG_ok {h : Heap} {mg : Str → Option Value} (X : K.In h) (G : h.Ns mainGlobals mg) {x z : Str} (c : strG K x z = true) : ∃ t, mg x = some (.str z t) := He.str_ok X G c
/-- a constant of a class -/
def cvalB (K : PySem.W.Frag) (c f : Str) (d : D) : Bool := match PySem.W.findCls K (.ref (He.ga K c)) (.type "type") f with
  | some (.val u) => relW K d u
  | _ => false
theorem cvalB_ok {c f : Str} {d : D} (hK : g.K = K) (h : cvalB K c f d = true) : ∃ v u, ClX.CVal K (He.ga K c) (.type "type") f v u ∧ ∀ F, RelD g F d v := by
  unfold cvalB at h
  split at h
  · rename_i u hu
    obtain ⟨h1, h2⟩ := relW_ok hK h
    exact ⟨_, u, ⟨hu, h1⟩, h2⟩
  · cases h
/-- a classmethod's function -/
def cmAd (K : PySem.W.Frag) (c m : Str) : Addr := match PySem.W.recIn K (He.ma K (He.ga K c) m) "classmethod" with
  | some (.ref f :: _) => f
  | _ => 0
def cmOk (K : PySem.W.Frag) (c m : Str) : Bool := match PySem.W.recIn K (He.ma K (He.ga K c) m) "classmethod" with
  | some (.ref _ :: _) => true
  | _ => false
theorem cm_rc {c m : Str} (h : cmOk K c m = true) : ∃ rest, PySem.W.recIn K (He.ma K (He.ga K c) m) "classmethod" = some (.ref (cmAd K c m) :: rest) := by
  unfold cmOk at h
  unfold cmAd
  split at h
  · rename_i f r e
    rw [e]
    exact ⟨r, rfl⟩
  · cases h
/-- own classes -/
def lowTys : List String := ["bool", "int", "str", "tuple", "list", "dict"]
def ownB (cs : List Str) (K : PySem.W.Frag) : Bool := cs.all fun c => (PySem.W.plainGet K (He.ga K c) Str.empty && (PySem.W.hasDictIn K (He.ga K c) && (PySem.W.plainOver K (He.ga K c) && decide (PySem.W.findIn K (.ref (He.ga K c)) "__setattr__" = some (some (.builtin "object.__setattr__")))))) &&
  ((decide (PySem.W.findIn K (.ref (He.ga K c)) "__class__" = some (some (.builtin "object.__class__"))) && (decide (PySem.W.specialIn K (.builtin "object.__class__") "__get__" = some (some (.builtin "getset_descriptor.__get__"))) &&
  (decide (PySem.W.takesIn K (.builtin "object.__class__") = some true) && decide (PySem.W.mroIn K (He.ga K c) (.type "object") = some true)))) &&
  ((cs.all fun c' => decide (PySem.W.kitOne K (.ref (He.ga K c')) (.ref (He.ga K c)) = some (decide (c' = c)))) && ((baseTys.all fun t => decide (PySem.W.kitOne K (.type t) (.ref (He.ga K c)) = some false)) && lowTys.all fun m => decide (PySem.W.kitOne K (.ref (He.ga K c)) (.type m) = some false))))
theorem own_ok {cs : List Str} (h : ownB cs K = true) : OwnTy (gK K) cs := by
  have all := fun c hc => List.all_eq_true.mp h c hc
  refine ⟨fun c hc H a dx fs e => ?_, fun c hc c' hc' => ?_, fun c hc t ht => ?_, fun c hc m hm => ?_⟩
  · obtain ⟨h1, h2⟩ := He.ba (all c hc)
    obtain ⟨a1, a2⟩ := He.ba h1
    obtain ⟨a3, a4⟩ := He.ba a2
    obtain ⟨a5, a6⟩ := He.ba a4
    obtain ⟨b1, b2⟩ := He.ba h2
    obtain ⟨b3, b4⟩ := He.ba b1
    obtain ⟨b5, b6⟩ := He.ba b4
    obtain ⟨b7, b8⟩ := He.ba b6
    exact .base (.ins e ⟨a1, a3, a5, of_decide_eq_true a6⟩ (of_decide_eq_true b3) (of_decide_eq_true b5) (of_decide_eq_true b7) (of_decide_eq_true b8))
  · exact of_decide_eq_true (List.all_eq_true.mp (He.ba (He.ba (He.ba (all c hc)).2).2).1 c' hc')
  · exact of_decide_eq_true (List.all_eq_true.mp (He.ba (He.ba (He.ba (He.ba (all c hc)).2).2).2).1 t ht)
  · exact of_decide_eq_true (List.all_eq_true.mp (He.ba (He.ba (He.ba (He.ba (all c hc)).2).2).2).2 m hm)
end
theorem emod_lim {x l : Int} (h : 0 < l) : 0 ≤ x % l ∧ x % l < l := ⟨Int.emod_nonneg _ (by omega), Int.emod_lt_of_pos _ h⟩
theorem atI_pos {α : Type} {xs : List α} {i : Int} (h0 : 0 ≤ i) (h1 : i < xs.length) : ∃ v, L2.atI xs i = some v ∧ v ∈ xs := by
  have h2 : i.toNat < xs.length := by omega
  refine ⟨xs[i.toNat], ?_, List.getElem_mem h2⟩
  unfold L2.atI ixN
  rw [if_pos h0, if_pos h1]
  simp [h2]
/-! ### the end -/
def S.nil : S := ⟨fun _ => none, 0, fun _ _ => rfl⟩
def spLaw (K : PySem.W.Frag) : Sp := fun vs H Q _ => ∃ (a : Addr) (ns : List Int), vs = [.ref a] ∧ SqL K H a (ns.map V.int) ∧ ∀ H', Q (.bl true) H'
theorem law_end [Kd] {P : Program} {w : World} {K : PySem.W.Frag} {mg : Str → Option Value} {base : Heap} {k : Nat} {f : Addr} {fd : FuncData} {x : Str} {m : List D → M Ex D} [MD m] (Fo : FnOk P w K mg base (XCX P w) k f fd [x] (spD (gK K) 1 m))
    (h : m [.scr] S.nil (fun d _ => d = .bl true) (fun _ _ => False)) : FnOk P w K mg base CX0 k f fd [x] (spLaw K) := by
  have sp : ∀ vs H Q E, spLaw K vs H Q E → spD (gK K) 1 m vs H Q (fun _ _ _ => False) := by
    rintro vs H Q E ⟨a, ns, rfl, hS, hQ⟩
    refine ⟨fun _ => none, H, S.nil, [.scr], rfl, ⟨Same.refl _, fun a o e => (nomatch (show (none : Option Ob) = some o from e)), fun a o e => (nomatch (show (none : Option HO) = some o from e))⟩, .one (by unfold RelD; exact ⟨a, ns, rfl, hS⟩), MD.mono _ _ _ _ _ _ (fun d s e v F' H' _ _ r => ?_) (fun _ _ z => z.elim) h⟩
    subst e
    unfold RelD at r
    rw [r]; exact hQ H'
  refine ⟨fun vs H Q E z => Fo.len _ _ _ _ (sp vs H Q E z), fun A outer s H args us vs Q E hr e0 hb r z => codeAny_mono (Fo.run A outer s H args us vs Q (fun _ _ _ => False) hr e0 hb r (sp vs H Q E z)) fun r s' hq => ?_⟩
  cases r with
  | error e =>
    exact (ctxB_no hq).elim
  | ok fl => cases fl <;> exact hq
end DL

/-! ### running mirrors: one equation a combinator (simp only [word_snoc]) -/
namespace DL
open PySem L2
section
variable {ε α β : Type} {a b c : Env → M Ex D} {t u : Env → M Ex Bool} {as ks : Env → M Ex (List D)} {p r : Env → MS} {m : Fn} {mi : Env → M Ex Src} {l h : Env → M Ex (Option Int)} {ρ : Env} {s : S} {E : Ex → S → Prop} {EE : Ex × Env → S → Prop}
  {Q : D → S → Prop} {QB : Bool → S → Prop} {QL : List D → S → Prop} {QF : Fl → S → Prop} {QI : Src → S → Prop} {QO : Option Int → S → Prop} {QU : Unit → S → Prop} {d x y : D} {ds es : List D}
theorem x_pure {QA : α → S → Prop} {EA : ε → S → Prop} {v : α} : (pureM v : M ε α) s QA EA = QA v s := rfl
theorem x_fail {QA : α → S → Prop} {EA : ε → S → Prop} : (failM : M ε α) s QA EA = False := rfl
theorem x_raise {QA : α → S → Prop} {EA : ε → S → Prop} {v : ε} : (raiseM v : M ε α) s QA EA = EA v s := rfl
theorem x_bind {QA : β → S → Prop} {EA : ε → S → Prop} {n : M ε α} {f : α → M ε β} : bindM n f s QA EA = n s (fun v s' => f v s' QA EA) EA := rfl
theorem x_see {QA : α → S → Prop} {EA : ε → S → Prop} {q : S → Option α} : (seeM q : M ε α) s QA EA = ∃ v, q s = some v ∧ QA v s := rfl
theorem x_need {EA : ε → S → Prop} {q : Prop} : (needM q : M ε Unit) s QU EA = (q ∧ QU () s) := rfl
theorem x_up {QA : α → S → Prop} {n : M Ex α} : up ρ n s QA EE = n s QA (fun x s' => EE (x, ρ) s') := rfl
theorem x_noX {QA : α → S → Prop} {n : M Ex α} : noX n s QA E = n s QA (fun _ _ => False) := rfl
theorem x_defM {n : Nat} : defM n p ds s Q E = p (ds.map some ++ List.replicate (n - ds.length) none) s (fun f s' => flD f s' Q E) (fun x s' => E x.1 s') := rfl
theorem x_fl_nx : flD (.nx ρ) s Q E = Q .non s := rfl
theorem x_fl_rt : flD (.rt d) s Q E = Q d s := rfl
theorem x_var {i : Nat} : var i ρ s Q E = varO ρ[i]? s Q E := rfl
theorem x_varO : varO (some (some d)) s Q E = Q d s := rfl
theorem x_cst : cst d ρ s Q E = Q d s := rfl
theorem x_liftT : liftT a ρ s QB E = a ρ s (fun d s' => asB d s' QB E) E := rfl
theorem x_asB {v : Bool} : asB (.bl v) s QB E = QB v s := rfl
theorem x_notT : notT t ρ s QB E = t ρ s (fun k s' => QB (!k) s') E := rfl
def selB (k : Bool) (X Y : Prop) : Prop := if k = true then X else Y
theorem selB_t {X Y : Prop} : selB true X Y = X := if_pos rfl
theorem selB_f {X Y : Prop} : selB false X Y = Y := if_neg Bool.false_ne_true
theorem selB_eq {k : Bool} {X Y : Prop} : selB k X Y ↔ (k = true → X) ∧ (k = false → Y) := by
  cases k
  · rw [selB_f]; simp
  · rw [selB_t]; simp
theorem selB_of {k : Bool} {X Y : Prop} (h1 : k = true → X) (h2 : k = false → Y) : selB k X Y := selB_eq.mpr ⟨h1, h2⟩
theorem ite_sel {k : Bool} {n o : M ε α} {QA : α → S → Prop} {EA : ε → S → Prop} : (if k = true then n else o) s QA EA = selB k (n s QA EA) (o s QA EA) := by cases k <;> rfl
theorem x_andT : andT t u ρ s QB E = t ρ s (fun k s' => selB k (u ρ s' QB E) (QB false s')) E := by
  unfold andT bindM; simp only [ite_sel, x_pure]
theorem x_orT : orT t u ρ s QB E = t ρ s (fun k s' => selB k (QB true s') (u ρ s' QB E)) E := by
  unfold orT bindM; simp only [ite_sel, x_pure]
theorem x_boolE : boolE t ρ s Q E = t ρ s (fun k s' => Q (.bl k) s') E := rfl
theorem x_andE : andE a b ρ s Q E = liftT a ρ s (fun k s' => selB k (b ρ s' Q E) (Q (.bl false) s')) E := by
  unfold andE bindM; simp only [ite_sel, x_pure]
theorem x_orE : orE a b ρ s Q E = liftT a ρ s (fun k s' => selB k (Q (.bl true) s') (b ρ s' Q E)) E := by
  unfold orE bindM; simp only [ite_sel, x_pure]
theorem x_notE : notE a ρ s Q E = liftT a ρ s (fun k s' => Q (.bl !k) s') E := rfl
theorem x_iteE : iteE t a b ρ s Q E = t ρ s (fun k s' => selB k (a ρ s' Q E) (b ρ s' Q E)) E := by
  unfold iteE bindM; simp only [ite_sel]
theorem x_argsN : argsN ρ s QL E = QL [] s := rfl
theorem x_argsC : argsC a as ρ s QL E = a ρ s (fun d s1 => as ρ s1 (fun ds s2 => QL (d :: ds) s2) E) E := rfl
theorem x_op2 {q : P2} : op2 q a b ρ s Q E = a ρ s (fun x s1 => b ρ s1 (fun y s2 => ∃ v, q x y s2 = some v ∧ Q v s2) E) E := rfl
theorem x_chain {q q' : P2} : chainE q q' a b c ρ s Q E = a ρ s (fun x s1 => b ρ s1 (fun y s2 => ∃ v, q x y s2 = some v ∧ asB v s2 (fun k s3 => selB k (c ρ s3 (fun w s4 => ∃ v, q' y w s4 = some v ∧ Q v s4) E) (Q (.bl false) s3)) E) E) E := by
  unfold chainE bindM; simp only [ite_sel, x_pure]; rfl
theorem x_partN : partN ρ s QO E = QO none s := rfl
theorem x_partS : partS a ρ s QO E = a ρ s (fun d s1 => asI d s1 (fun i s2 => QO (some i) s2) E) E := rfl
theorem x_asI {i : Int} {QN : Int → S → Prop} : asI (.int i) s QN E = QN i s := rfl
theorem x_slice : sliceE a l h ρ s Q E = a ρ s (fun x s1 => l ρ s1 (fun lo s2 => h ρ s2 (fun hi s3 => ∃ v, slD x lo hi = some v ∧ Q v s3) E) E) E := rfl
theorem x_tupE : tupE as ρ s Q E = as ρ s (fun ds s1 => ds.length ≤ sizeLine ∧ Q (.tup ds) s1) E := rfl
theorem x_lstE : lstE as ρ s Q E = as ρ s (fun ds s1 => ds.length ≤ sizeLine ∧ Q (.lst ds) s1) E := rfl
theorem x_lstN : lstN as ρ s Q E = as ρ s (fun ds s1 => ds.length ≤ sizeLine ∧ ∀ a, s1.map a = none → Q (.ref a) (s1.set a (.lst ds))) E := rfl
theorem x_dicN : dicN ρ s Q E = ∀ a, s.map a = none → Q (.ref a) (s.set a (.dic [])) := rfl
theorem x_fldE {k f : Str} : fldE k f a ρ s Q E = a ρ s (fun x s1 => ∃ v, fldD k f x s1 = some v ∧ Q v s1) E := rfl
theorem x_prim {q : PN} : prim q as ρ s Q E = as ρ s (fun ds s1 => ∃ v, q ds s1 = some v ∧ Q v s1) E := rfl
theorem x_m1 {q : P2} : m1 q a b ρ s Q E = a ρ s (fun x s1 => ∃ v, isStr x = some v ∧ b ρ s1 (fun y s2 => ∃ v, q x y s2 = some v ∧ Q v s2) E) E := rfl
theorem x_listM {f : D → S → List D → Option (List D)} : listM f a b ρ s Q E = a ρ s (fun x s1 => ∃ v, isL x s1 = some v ∧ b ρ s1 (fun y s2 => atLf f x y s2 Q E) E) E := rfl
theorem x_callE : callE m as ks ρ s Q E = as ρ s (fun ds s1 => ks ρ s1 (fun es s2 => m ds es s2 Q E) E) E := rfl
theorem x_methE {k n : Str} : methE k n m a as ks ρ s Q E = a ρ s (fun x s1 => ∃ v, insOk k n x s1 = some v ∧ as ρ s1 (fun ds s2 => ks ρ s2 (fun es s3 => m (x :: ds) es s3 Q E) E) E) E := rfl
theorem x_posF {n : Nat} {dd : List D} {f : List D → M Ex D} (hl : ds.length = n) : posF n dd f ds [] s Q E = f (ds ++ dd) s Q E := by
  show (if ds.length = n then f (ds ++ dd) else failM) s Q E = _
  rw [if_pos hl]
theorem x_kwF {n j : Nat} {gD : List D → List D → List D} {f : List D → M Ex D} (h1 : ds.length = n) (h2 : es.length = j) : kwF n j gD f ds es s Q E = f (gD ds es) s Q E := by
  show (if ds.length = n ∧ es.length = j then f (gD ds es) else failM) s Q E = _
  rw [if_pos ⟨h1, h2⟩]
theorem x_mkM {k : Str} {fin : D → M Ex D} : mkM k m fin ds es s Q E = ∀ a, s.map a = none → m (.ref a :: ds) es (s.set a (.ins k [])) (fun r s1 => asN r s1 (fun _ s2 => fin (.ref a) s2 Q E) E) E := rfl
theorem x_asN : asN .non s QU E = QU () s := rfl
theorem x_stay : stay d s Q E = Q d s := rfl
theorem x_seqS : seqS p r ρ s QF EE = p ρ s (fun f s' => thenF r f s' QF EE) EE := rfl
theorem x_then_nx : thenF r (.nx ρ) s QF EE = r ρ s QF EE := rfl
theorem x_then_rt : thenF r (.rt d) s QF EE = QF (.rt d) s := rfl
theorem x_then_bk : thenF r (.bk ρ) s QF EE = QF (.bk ρ) s := rfl
theorem x_then_ct : thenF r (.ct ρ) s QF EE = QF (.ct ρ) s := rfl
theorem x_nilS : nilS ρ s QF EE = QF (.nx ρ) s := rfl
theorem x_neverS : neverS ρ s QF EE = False := rfl
theorem x_retS : retS a ρ s QF EE = a ρ s (fun d s' => QF (.rt d) s') (fun x s' => EE (x, ρ) s') := rfl
theorem x_retN : retN ρ s QF EE = QF (.rt .non) s := rfl
theorem x_exprS : exprS a ρ s QF EE = a ρ s (fun _ s' => QF (.nx ρ) s') (fun x s' => EE (x, ρ) s') := rfl
theorem x_ifS : ifS t p r ρ s QF EE = t ρ s (fun k s' => selB k (p ρ s' QF EE) (r ρ s' QF EE)) (fun x s' => EE (x, ρ) s') := by
  unfold ifS bindM up; simp only [ite_sel]
theorem x_setS {i : Nat} : setS i a ρ s QF EE = a ρ s (fun d s' => QF (.nx (ρ.set i (some d))) s') (fun x s' => EE (x, ρ) s') := rfl
theorem x_bkS : bkS ρ s QF EE = QF (.bk ρ) s := rfl
theorem x_ctS : ctS ρ s QF EE = QF (.ct ρ) s := rfl
def asgP (o : Option Env) (s : S) (QF : Fl → S → Prop) : Prop := ∃ ρ', o = some ρ' ∧ QF (.nx ρ') s
theorem x_asgS {f : D → Env → Option Env} : asgS f a ρ s QF EE = a ρ s (fun d s' => ∃ ρ', f d ρ = some ρ' ∧ QF (.nx ρ') s') (fun x s' => EE (x, ρ) s') := by
  unfold asgS bindM up
  congr 1
  funext d s'
  show ((match f d ρ with | some ρ' => pureM (.nx ρ') | none => failM) : MS) s' QF EE = ∃ ρ', f d ρ = some ρ' ∧ QF (.nx ρ') s'
  generalize f d ρ = o
  cases o with
  | none => exact propext ⟨fun h => h.elim, fun ⟨_, h, _⟩ => by cases h⟩
  | some ρ' => exact propext ⟨fun h => ⟨ρ', rfl, h⟩, fun ⟨_, h, z⟩ => by cases h; exact z⟩
theorem x_forS {f : D → Env → Option Env} : forS mi f p ρ s QF EE = mi ρ s (fun q s' => loopS q.P f p q.items ρ s' QF EE) (fun x s' => EE (x, ρ) s') := rfl
theorem x_loop_nil {P : S → Prop} {f : D → Env → Option Env} : loopS P f p [] ρ s QF EE = (P s ∧ QF (.nx ρ) s) := rfl
theorem x_loop_cons {P : S → Prop} {f : D → Env → Option Env} : loopS P f p (d :: ds) ρ s QF EE = (P s ∧ ∃ ρ1, f d ρ = some ρ1 ∧ p ρ1 s (fun fl s' => turnF (loopS P f p ds) fl s' QF EE) EE) := rfl
theorem x_turn_nx {k : Env → MS} : turnF k (.nx ρ) s QF EE = k ρ s QF EE := rfl
theorem x_turn_ct {k : Env → MS} : turnF k (.ct ρ) s QF EE = k ρ s QF EE := rfl
theorem x_turn_bk {k : Env → MS} : turnF k (.bk ρ) s QF EE = QF (.nx ρ) s := rfl
theorem x_turn_rt {k : Env → MS} : turnF k (.rt d) s QF EE = QF (.rt d) s := rfl
theorem x_freezeS {i : Nat} : freezeS i ρ s QF EE = varO ρ[i]? s (fun d s1 => freeze d s1 (fun x s2 => QF (.nx (ρ.set i (some x))) s2) EE) (fun x s' => EE (x, ρ) s') := rfl
theorem x_fldS {k f : Str} : fldS k f a b ρ s QF EE = b ρ s (fun y s1 => a ρ s1 (fun x s2 => setFld k f x y s2 (fun _ s3 => QF (.nx ρ) s3) EE) (fun x s' => EE (x, ρ) s')) (fun x s' => EE (x, ρ) s') := rfl
theorem x_keyS : keyS a b c ρ s QF EE = c ρ s (fun y s1 => a ρ s1 (fun x s2 => b ρ s2 (fun k s3 => setKey x k y s3 (fun _ s4 => QF (.nx ρ) s4) EE) (fun x s' => EE (x, ρ) s')) (fun x s' => EE (x, ρ) s')) (fun x s' => EE (x, ρ) s') := rfl
theorem x_iterL : iterL a ρ s QI E = a ρ s (fun d s1 => ∃ v, ((lstOf s1 d).bind fun xs => if xs.length ≤ sizeLine then some (⟨xs, srcP d xs⟩ : Src) else none) = some v ∧ QI v s1) E := rfl
theorem x_iterT : iterT a ρ s QI E = a ρ s (fun d s1 => ∃ v, ((tupOf d).bind fun xs => if xs.length ≤ sizeLine then some (⟨xs, fun _ => True⟩ : Src) else none) = some v ∧ QI v s1) E := rfl
def strSrc : D → Option Src
  | .str z => if z.length ≤ sizeLine then some ⟨signs z, fun _ => True⟩ else none
  | _ => none
theorem x_iterS : iterS a ρ s QI E = a ρ s (fun d s1 => ∃ v, strSrc d = some v ∧ QI v s1) E := by
  show a ρ s (fun d s1 => seeM (fun _ => match d with | .str z => if z.length ≤ sizeLine then some (⟨signs z, fun _ => True⟩ : Src) else none | _ => none) s1 QI E) E = _
  congr 1
theorem x_iterR {q : List D → Option Src} : iterR q as ρ s QI E = as ρ s (fun ds s1 => ∃ v, q ds = some v ∧ QI v s1) E := rfl
theorem x_iterZ : iterZ as ρ s QI E = as ρ s (fun ds s1 => ∃ v, zipSrc s1 ds = some v ∧ QI v s1) E := rfl
theorem x_lcE {own : List Nat} {f : D → Env → Option Env} {out : List D → M Ex D} : lcE mi own f t a out ρ s Q E = mi ρ s (fun q s1 => lcLoop q.P f t a (wipeD ρ own) q.items [] s1 (fun ds s2 => out ds s2 Q E) E) E := rfl
theorem x_outF : outF ds s Q E = Q (.lst ds) s := rfl
theorem x_yesT : yesT ρ s QB E = QB true s := rfl
theorem x_lc_nil {P : S → Prop} {f : D → Env → Option Env} : lcLoop P f t a ρ [] ds s QL E = (P s ∧ QL ds s) := rfl
theorem x_lc_cons {P : S → Prop} {f : D → Env → Option Env} : lcLoop P f t a ρ (d :: es) ds s QL E = (P s ∧ ∃ ρ1, f d ρ = some ρ1 ∧ t ρ1 s (fun k s1 => selB k (a ρ1 s1 (fun y s2 => lcLoop P f t a ρ es (ds ++ [y]) s2 QL E) (fun _ _ => False)) (lcLoop P f t a ρ es ds s1 QL E)) (fun _ _ => False)) := by
  show (P s ∧ ∃ ρ1, f d ρ = some ρ1 ∧ bindM (noX (t ρ1)) (fun b => if b = true then bindM (noX (a ρ1)) fun y => lcLoop P f t a ρ es (ds ++ [y]) else lcLoop P f t a ρ es ds) s QL E) = _
  simp only [x_bind, x_noX, ite_sel]
/-! the frame's slots, lists, options -/
theorem e_start {x : α} {xs : List α} : List.map some (x :: xs) = some x :: List.map some xs := rfl
theorem e_startN : List.map some ([] : List α) = [] := rfl
theorem e_some {x : α} {P : α → Prop} : (∃ v, some x = some v ∧ P v) = P x := by simp
theorem e_none {P : α → Prop} : (∃ v, (none : Option α) = some v ∧ P v) = False := by simp
theorem e_bind {x : α} {f : α → Option β} : (some x).bind f = f x := rfl
theorem e_map {x : α} {f : α → β} : (some x).map f = some (f x) := rfl
theorem e_bindn {f : α → Option β} : (none : Option α).bind f = none := rfl
theorem e_mapn {f : α → β} : (none : Option α).map f = none := rfl
theorem e_get0 {x : α} {xs : List α} : (x :: xs)[0]? = some x := rfl
theorem e_getS {x : α} {xs : List α} {n : Nat} : (x :: xs)[n + 1]? = xs[n]? := rfl
theorem e_set0 {x y : α} {xs : List α} : (x :: xs).set 0 y = y :: xs := rfl
theorem e_setS {x y : α} {xs : List α} {n : Nat} : (x :: xs).set (n + 1) y = x :: xs.set n y := rfl
theorem e_app {x : α} {xs ys : List α} : (x :: xs) ++ ys = x :: (xs ++ ys) := rfl
theorem e_appN {ys : List α} : ([] : List α) ++ ys = ys := rfl
theorem e_len {x : α} {xs : List α} : (x :: xs).length = xs.length + 1 := rfl
theorem e_lenN : ([] : List α).length = 0 := rfl
theorem e_repS {x : α} {n : Nat} : List.replicate (n + 1) x = x :: List.replicate n x := rfl
theorem e_rep0 {x : α} : List.replicate 0 x = [] := rfl
theorem e_name {i : Nat} : toName i d ρ = some (ρ.set i (some d)) := rfl
theorem e_tup {n : Nat} {f : List D → Env → Option Env} (hl : ds.length = n) : toTup n f (.tup ds) ρ = f ds ρ := if_pos hl
theorem e_consT {f : D → Env → Option Env} {k : List D → Env → Option Env} : toCons f k (d :: ds) ρ = (f d ρ).bind fun ρ' => k ds ρ' := by
  show (match f d ρ with | some ρ' => k ds ρ' | none => none) = _
  cases f d ρ <;> rfl
theorem e_nilT : toNil [] ρ = some ρ := rfl
theorem e_wipe0 : wipeD ρ [] = ρ := rfl
theorem e_wipeS {v : Nat} {vs : List Nat} : wipeD ρ (v :: vs) = (wipeD ρ vs).set v none := rfl
end
end DL

namespace DL
def runs_D14 := And.intro @x_pure (And.intro @x_fail (And.intro @x_raise (And.intro @x_bind (And.intro @x_see (And.intro @x_need (And.intro @x_up (And.intro @x_noX (And.intro @x_defM (And.intro @x_fl_nx (And.intro @x_fl_rt (And.intro @x_var (And.intro @x_varO (And.intro @x_cst (And.intro @x_liftT (And.intro @x_asB (And.intro @x_notT (And.intro @selB_t (And.intro @selB_f (And.intro @x_andT (And.intro @x_orT (And.intro @x_boolE (And.intro @x_andE (And.intro @x_orE (And.intro @x_notE (And.intro @x_iteE (And.intro @x_argsN (And.intro @x_argsC (And.intro @x_op2 (And.intro @x_chain (And.intro @x_partN (And.intro @x_partS (And.intro @x_asI (And.intro @x_slice (And.intro @x_tupE (And.intro @x_lstE (And.intro @x_lstN (And.intro @x_dicN (And.intro @x_fldE (And.intro @x_prim (And.intro @x_m1 (And.intro @x_listM (And.intro @x_callE (And.intro @x_methE (And.intro @x_posF (And.intro @x_kwF (And.intro @x_mkM (And.intro @x_asN (And.intro @x_stay (And.intro @x_seqS (And.intro @x_then_nx (And.intro @x_then_rt (And.intro @x_then_bk (And.intro @x_then_ct (And.intro @x_nilS (And.intro @x_neverS (And.intro @x_retS (And.intro @x_retN (And.intro @x_exprS (And.intro @x_ifS (And.intro @x_setS (And.intro @x_bkS (And.intro @x_ctS (And.intro @x_asgS (And.intro @x_forS (And.intro @x_loop_nil (And.intro @x_turn_nx (And.intro @x_turn_ct (And.intro @x_turn_bk (And.intro @x_turn_rt (And.intro @x_freezeS (And.intro @x_fldS (And.intro @x_keyS (And.intro @x_iterL (And.intro @x_iterT (And.intro @x_iterS (And.intro @x_iterR (And.intro @x_iterZ (And.intro @x_lcE (And.intro @x_outF (And.intro @x_yesT (And.intro @x_lc_nil (And.intro @e_start (And.intro @e_startN (And.intro @e_some (And.intro @e_none (And.intro @e_bind (And.intro @e_map (And.intro @e_bindn (And.intro @e_mapn (And.intro @e_get0 (And.intro @e_getS (And.intro @e_set0 (And.intro @e_setS (And.intro @e_app (And.intro @e_appN (And.intro @e_len (And.intro @e_lenN (And.intro @e_repS (And.intro @e_rep0 (And.intro @e_name (And.intro @e_tup (And.intro @e_consT (And.intro @e_nilT (And.intro @e_wipe0 (@e_wipeS)))))))))))))))))))))))))))))))))))))))))))))))))))))))))))))))))))))))))))))))))))))))))))))))))))))))))
end DL
/-! ### what the primitives give -/
namespace DL
open PySem L2
variable {cs : List Str} {s : S} {i j : Int} {z y : Str} {b c : Bool} {xs ys : List D}
theorem isi_non_bool  : isiD cs [.non, .ty "bool"] s = some (.bl false) := by simp [isiD, isiB, tyS, subT]
theorem isi_non_int  : isiD cs [.non, .ty "int"] s = some (.bl false) := by simp [isiD, isiB, tyS, subT]
theorem isi_non_str  : isiD cs [.non, .ty "str"] s = some (.bl false) := by simp [isiD, isiB, tyS, subT]
theorem isi_non_tuple  : isiD cs [.non, .ty "tuple"] s = some (.bl false) := by simp [isiD, isiB, tyS, subT]
theorem isi_non_list  : isiD cs [.non, .ty "list"] s = some (.bl false) := by simp [isiD, isiB, tyS, subT]
theorem isi_non_dict  : isiD cs [.non, .ty "dict"] s = some (.bl false) := by simp [isiD, isiB, tyS, subT]
theorem isi_non_cls  {k : Str} (h : k ∈ cs) : isiD cs [.non, .cls k] s = some (.bl false) := by simp [isiD, isiB, tyS, h]
theorem isi_bl_bool {b : Bool} : isiD cs [.bl b, .ty "bool"] s = some (.bl true) := by simp [isiD, isiB, tyS, subT]
theorem isi_bl_int {b : Bool} : isiD cs [.bl b, .ty "int"] s = some (.bl true) := by simp [isiD, isiB, tyS, subT]
theorem isi_bl_str {b : Bool} : isiD cs [.bl b, .ty "str"] s = some (.bl false) := by simp [isiD, isiB, tyS, subT]
theorem isi_bl_tuple {b : Bool} : isiD cs [.bl b, .ty "tuple"] s = some (.bl false) := by simp [isiD, isiB, tyS, subT]
theorem isi_bl_list {b : Bool} : isiD cs [.bl b, .ty "list"] s = some (.bl false) := by simp [isiD, isiB, tyS, subT]
theorem isi_bl_dict {b : Bool} : isiD cs [.bl b, .ty "dict"] s = some (.bl false) := by simp [isiD, isiB, tyS, subT]
theorem isi_bl_cls {b : Bool} {k : Str} (h : k ∈ cs) : isiD cs [.bl b, .cls k] s = some (.bl false) := by simp [isiD, isiB, tyS, h]
theorem isi_int_bool {i : Int} : isiD cs [.int i, .ty "bool"] s = some (.bl false) := by simp [isiD, isiB, tyS, subT]
theorem isi_int_int {i : Int} : isiD cs [.int i, .ty "int"] s = some (.bl true) := by simp [isiD, isiB, tyS, subT]
theorem isi_int_str {i : Int} : isiD cs [.int i, .ty "str"] s = some (.bl false) := by simp [isiD, isiB, tyS, subT]
theorem isi_int_tuple {i : Int} : isiD cs [.int i, .ty "tuple"] s = some (.bl false) := by simp [isiD, isiB, tyS, subT]
theorem isi_int_list {i : Int} : isiD cs [.int i, .ty "list"] s = some (.bl false) := by simp [isiD, isiB, tyS, subT]
theorem isi_int_dict {i : Int} : isiD cs [.int i, .ty "dict"] s = some (.bl false) := by simp [isiD, isiB, tyS, subT]
theorem isi_int_cls {i : Int} {k : Str} (h : k ∈ cs) : isiD cs [.int i, .cls k] s = some (.bl false) := by simp [isiD, isiB, tyS, h]
theorem isi_str_bool {z : Str} : isiD cs [.str z, .ty "bool"] s = some (.bl false) := by simp [isiD, isiB, tyS, subT]
theorem isi_str_int {z : Str} : isiD cs [.str z, .ty "int"] s = some (.bl false) := by simp [isiD, isiB, tyS, subT]
theorem isi_str_str {z : Str} : isiD cs [.str z, .ty "str"] s = some (.bl true) := by simp [isiD, isiB, tyS, subT]
theorem isi_str_tuple {z : Str} : isiD cs [.str z, .ty "tuple"] s = some (.bl false) := by simp [isiD, isiB, tyS, subT]
theorem isi_str_list {z : Str} : isiD cs [.str z, .ty "list"] s = some (.bl false) := by simp [isiD, isiB, tyS, subT]
theorem isi_str_dict {z : Str} : isiD cs [.str z, .ty "dict"] s = some (.bl false) := by simp [isiD, isiB, tyS, subT]
theorem isi_str_cls {z : Str} {k : Str} (h : k ∈ cs) : isiD cs [.str z, .cls k] s = some (.bl false) := by simp [isiD, isiB, tyS, h]
theorem isi_tup_bool {xs : List D} : isiD cs [.tup xs, .ty "bool"] s = some (.bl false) := by simp [isiD, isiB, tyS, subT]
theorem isi_tup_int {xs : List D} : isiD cs [.tup xs, .ty "int"] s = some (.bl false) := by simp [isiD, isiB, tyS, subT]
theorem isi_tup_str {xs : List D} : isiD cs [.tup xs, .ty "str"] s = some (.bl false) := by simp [isiD, isiB, tyS, subT]
theorem isi_tup_tuple {xs : List D} : isiD cs [.tup xs, .ty "tuple"] s = some (.bl true) := by simp [isiD, isiB, tyS, subT]
theorem isi_tup_list {xs : List D} : isiD cs [.tup xs, .ty "list"] s = some (.bl false) := by simp [isiD, isiB, tyS, subT]
theorem isi_tup_dict {xs : List D} : isiD cs [.tup xs, .ty "dict"] s = some (.bl false) := by simp [isiD, isiB, tyS, subT]
theorem isi_tup_cls {xs : List D} {k : Str} (h : k ∈ cs) : isiD cs [.tup xs, .cls k] s = some (.bl false) := by simp [isiD, isiB, tyS, h]
theorem isi_lst_bool {xs : List D} : isiD cs [.lst xs, .ty "bool"] s = some (.bl false) := by simp [isiD, isiB, tyS, subT]
theorem isi_lst_int {xs : List D} : isiD cs [.lst xs, .ty "int"] s = some (.bl false) := by simp [isiD, isiB, tyS, subT]
theorem isi_lst_str {xs : List D} : isiD cs [.lst xs, .ty "str"] s = some (.bl false) := by simp [isiD, isiB, tyS, subT]
theorem isi_lst_tuple {xs : List D} : isiD cs [.lst xs, .ty "tuple"] s = some (.bl false) := by simp [isiD, isiB, tyS, subT]
theorem isi_lst_list {xs : List D} : isiD cs [.lst xs, .ty "list"] s = some (.bl true) := by simp [isiD, isiB, tyS, subT]
theorem isi_lst_dict {xs : List D} : isiD cs [.lst xs, .ty "dict"] s = some (.bl false) := by simp [isiD, isiB, tyS, subT]
theorem isi_lst_cls {xs : List D} {k : Str} (h : k ∈ cs) : isiD cs [.lst xs, .cls k] s = some (.bl false) := by simp [isiD, isiB, tyS, h]
theorem isi_dic_bool {ks : List Key} {vs : List D} : isiD cs [.dic ks vs, .ty "bool"] s = some (.bl false) := by simp [isiD, isiB, tyS, subT]
theorem isi_dic_int {ks : List Key} {vs : List D} : isiD cs [.dic ks vs, .ty "int"] s = some (.bl false) := by simp [isiD, isiB, tyS, subT]
theorem isi_dic_str {ks : List Key} {vs : List D} : isiD cs [.dic ks vs, .ty "str"] s = some (.bl false) := by simp [isiD, isiB, tyS, subT]
theorem isi_dic_tuple {ks : List Key} {vs : List D} : isiD cs [.dic ks vs, .ty "tuple"] s = some (.bl false) := by simp [isiD, isiB, tyS, subT]
theorem isi_dic_list {ks : List Key} {vs : List D} : isiD cs [.dic ks vs, .ty "list"] s = some (.bl false) := by simp [isiD, isiB, tyS, subT]
theorem isi_dic_dict {ks : List Key} {vs : List D} : isiD cs [.dic ks vs, .ty "dict"] s = some (.bl true) := by simp [isiD, isiB, tyS, subT]
theorem isi_dic_cls {ks : List Key} {vs : List D} {k : Str} (h : k ∈ cs) : isiD cs [.dic ks vs, .cls k] s = some (.bl false) := by simp [isiD, isiB, tyS, h]
theorem isi_ins_cls {k k' : Str} {ns : List Str} {vs : List D} (h : k ∈ cs) (h' : k' ∈ cs) : isiD cs [.ins k' ns vs, .cls k] s = some (.bl (decide (k' = k))) := by simp [isiD, isiB, tyS, clsS, h, h']
theorem isi_ins_ty {k' : Str} {m : String} {ns : List Str} {vs : List D} (hm : m ∈ lowTys) (h' : k' ∈ cs) : isiD cs [.ins k' ns vs, .ty m] s = some (.bl false) := by
  show Option.map D.bl (if m ∈ ["bool", "int", "str", "tuple", "list", "dict"] then (Option.bind (some k') fun c' => if c' ∈ cs then some false else none) else none) = some (D.bl false)
  rw [if_pos (show m ∈ ["bool", "int", "str", "tuple", "list", "dict"] from hm)]
  simp [h']
theorem add_int : addD (.int i) (.int j) s = some (.int (i + j)) := rfl
theorem add_str (h : z.length + y.length ≤ sizeLine) : addD (.str z) (.str y) s = some (.str (z ++ y)) := if_pos h
theorem add_tup (h : xs.length + ys.length ≤ sizeLine) : addD (.tup xs) (.tup ys) s = some (.tup (xs ++ ys)) := if_pos h
theorem sub_int : subD (.int i) (.int j) s = some (.int (i - j)) := rfl
theorem lt_int : ltD (.int i) (.int j) s = some (.bl (decide (i < j))) := rfl
theorem le_int : leD (.int i) (.int j) s = some (.bl (decide (i ≤ j))) := rfl
theorem gt_int : gtD (.int i) (.int j) s = some (.bl (decide (j < i))) := rfl
theorem ge_int : geD (.int i) (.int j) s = some (.bl (decide (j ≤ i))) := rfl
theorem eq_int : eqD (.int i) (.int j) s = some (.bl (decide (i = j))) := by simp [eqD, eqB, eqS, scalV, scal]
theorem eq_str : eqD (.str z) (.str y) s = some (.bl (decide (z = y))) := by simp [eqD, eqB, eqS, scalV, scal]
theorem eq_bl : eqD (.bl b) (.bl c) s = some (.bl (decide (b = c))) := by simp [eqD, eqB, eqS, scalV, scal]
theorem ne_int : neD (.int i) (.int j) s = some (.bl (!decide (i = j))) := by simp [neD, eqB, eqS, scalV, scal]
theorem ne_str : neD (.str z) (.str y) s = some (.bl (!decide (z = y))) := by simp [neD, eqB, eqS, scalV, scal]
theorem ne_bl : neD (.bl b) (.bl c) s = some (.bl (!decide (b = c))) := by simp [neD, eqB, eqS, scalV, scal]
theorem is_non {x : D} : isD x .non s = some (.bl (isNon x)) := rfl
theorem isnt_non {x : D} : isntD x .non s = some (.bl (!isNon x)) := rfl
theorem isNon_non : isNon .non = true := rfl
theorem isNon_str : isNon (.str z) = false := rfl
theorem isNon_tup : isNon (.tup xs) = false := rfl
theorem isNon_ins {k : Str} {ns : List Str} {vs : List D} : isNon (.ins k ns vs) = false := rfl
theorem le_sz0 : (0 ≤ sizeLine) = True := eq_true (by decide)
theorem le_sz1 : (1 ≤ sizeLine) = True := eq_true (by decide)
theorem le_sz2 : (2 ≤ sizeLine) = True := eq_true (by decide)
theorem le_sz3 : (3 ≤ sizeLine) = True := eq_true (by decide)
theorem le_sz4 : (4 ≤ sizeLine) = True := eq_true (by decide)
theorem le_sz5 : (5 ≤ sizeLine) = True := eq_true (by decide)
theorem le_sz6 : (6 ≤ sizeLine) = True := eq_true (by decide)
theorem le_sz7 : (7 ≤ sizeLine) = True := eq_true (by decide)
theorem le_sz8 : (8 ≤ sizeLine) = True := eq_true (by decide)
theorem le_sz9 : (9 ≤ sizeLine) = True := eq_true (by decide)
theorem le_sz10 : (10 ≤ sizeLine) = True := eq_true (by decide)
theorem le_sz11 : (11 ≤ sizeLine) = True := eq_true (by decide)
theorem le_sz12 : (12 ≤ sizeLine) = True := eq_true (by decide)
theorem le_sz13 : (13 ≤ sizeLine) = True := eq_true (by decide)
theorem le_sz14 : (14 ≤ sizeLine) = True := eq_true (by decide)
theorem le_sz15 : (15 ≤ sizeLine) = True := eq_true (by decide)
theorem le_sz16 : (16 ≤ sizeLine) = True := eq_true (by decide)
theorem le_sz17 : (17 ≤ sizeLine) = True := eq_true (by decide)
theorem le_sz18 : (18 ≤ sizeLine) = True := eq_true (by decide)
theorem le_sz19 : (19 ≤ sizeLine) = True := eq_true (by decide)
theorem le_sz20 : (20 ≤ sizeLine) = True := eq_true (by decide)
theorem le_sz21 : (21 ≤ sizeLine) = True := eq_true (by decide)
theorem le_sz22 : (22 ≤ sizeLine) = True := eq_true (by decide)
theorem le_sz23 : (23 ≤ sizeLine) = True := eq_true (by decide)
theorem le_sz24 : (24 ≤ sizeLine) = True := eq_true (by decide)
theorem le_sz25 : (25 ≤ sizeLine) = True := eq_true (by decide)
theorem le_sz26 : (26 ≤ sizeLine) = True := eq_true (by decide)
theorem le_sz27 : (27 ≤ sizeLine) = True := eq_true (by decide)
theorem le_sz28 : (28 ≤ sizeLine) = True := eq_true (by decide)
theorem le_sz29 : (29 ≤ sizeLine) = True := eq_true (by decide)
theorem le_sz30 : (30 ≤ sizeLine) = True := eq_true (by decide)
theorem le_sz31 : (31 ≤ sizeLine) = True := eq_true (by decide)
theorem len_str (h : z.length ≤ sizeLine) : lenD [.str z] s = some (.int z.length) := if_pos h
theorem len_tup : lenD [.tup xs] s = some (.int xs.length) := rfl
theorem len_lst : lenD [.lst xs] s = some (.int xs.length) := rfl
theorem ix_str {k : Nat} (h : z.length ≤ sizeLine) (e : atI z.cps.toList i = some k) : ixD (.str z) (.int i) s = some (.str ⟨#[k]⟩) := by
  show (if z.length ≤ sizeLine then (atI z.cps.toList i).map fun c => D.str ⟨#[c]⟩ else none) = _
  rw [if_pos h, e]; rfl
theorem ix_tup : ixD (.tup xs) (.int i) s = atI xs i := rfl
theorem ix_lst : ixD (.lst xs) (.int i) s = atI xs i := rfl
theorem tupOf_tup : tupOf (.tup xs) = some xs := rfl
theorem lstOf_lst : lstOf s (.lst xs) = some xs := rfl
theorem srcP_lst : srcP (.lst ys) xs = fun _ => True := rfl
theorem listF_tup : listF [.tup xs] s = some (.lst xs) := rfl
theorem listF_lst : listF [.lst xs] s = some (.lst xs) := rfl
theorem tupleF_tup : tupleF [.tup xs] s = some (.tup xs) := rfl
theorem tupleF_lst : tupleF [.lst xs] s = some (.tup xs) := rfl
theorem isStr_str : isStr (.str z) = some () := rfl
theorem e_true_and {P : Prop} : (True ∧ P) = P := by simp
theorem e_exU {P : Prop} : (∃ _ : Unit, P) = P := by simp
theorem e_notT : (!true) = false := rfl
theorem e_notF : (!false) = true := rfl
/-- a draw -/
theorem draw_wp {a : Addr} {c : Addr} {l : Int} {Q : D → S → Prop} {E : Ex → S → Prop} (h : s.map a = some (.bag c)) (h0 : 0 < l) (h1 : l < 2 ^ 200) (q : ∀ v : Int, 0 ≤ v → v < l → Q (.int v) s) : drawF [.ref a, .int l] s Q E := ⟨a, c, l, rfl, h, h0, h1, q⟩
/-- a loop: what holds between two turns -/
theorem loop_inv {P : S → Prop} {f : D → Env → Option Env} {p : Env → MS} [MB p] {QF : Fl → S → Prop} {EE : Ex × Env → S → Prop} (I : List D → Env → S → Prop) :
    ∀ (ds : List D) (ρ : Env) (s : S), I ds ρ s → (∀ d ds ρ s, I (d :: ds) ρ s → P s ∧ ∃ ρ1, f d ρ = some ρ1 ∧ p ρ1 s (fun fl s' => turnF (fun ρ' s'' _ _ => I ds ρ' s'') fl s' QF EE) EE) → (∀ ρ s, I [] ρ s → P s ∧ QF (.nx ρ) s) → loopS P f p ds ρ s QF EE
  | [], ρ, s, h, _, e => e ρ s h
  | d :: ds, ρ, s, h, st, e => by
    obtain ⟨h1, ρ1, h2, h3⟩ := st d ds ρ s h
    refine ⟨h1, ρ1, h2, MB.mono ρ1 _ _ _ _ _ (fun fl s' k => ?_) (fun _ _ x => x) h3⟩
    cases fl with
    | nx ρ' => exact loop_inv I ds ρ' s' k st e
    | ct ρ' => exact loop_inv I ds ρ' s' k st e
    | bk ρ' => exact k
    | rt d => exact k
/-- a comprehension: what holds between two turns -/
theorem lc_inv {P : S → Prop} {f : D → Env → Option Env} {t : Env → M Ex Bool} {a : Env → M Ex D} [MB t] [MB a] {ρ : Env} {QL : List D → S → Prop} {E : Ex → S → Prop} (I : List D → List D → S → Prop) :
    ∀ (ds acc : List D) (s : S), I ds acc s → (∀ d ds acc s, I (d :: ds) acc s → P s ∧ ∃ ρ1, f d ρ = some ρ1 ∧ t ρ1 s (fun k s1 => selB k (a ρ1 s1 (fun y s2 => I ds (acc ++ [y]) s2) (fun _ _ => False)) (I ds acc s1)) (fun _ _ => False)) →
      (∀ acc s, I [] acc s → P s ∧ QL acc s) → lcLoop P f t a ρ ds acc s QL E
  | [], acc, s, h, _, e => e acc s h
  | d :: ds, acc, s, h, st, e => by
    obtain ⟨h1, ρ1, h2, h3⟩ := st d ds acc s h
    rw [x_lc_cons]
    refine ⟨h1, ρ1, h2, MB.mono ρ1 _ _ _ _ _ (fun k s1 z => ?_) (fun _ _ x => x) h3⟩
    cases k with
    | true => rw [selB_t] at z ⊢; exact MB.mono ρ1 _ _ _ _ _ (fun y s2 q => lc_inv I ds _ s2 q st e) (fun _ _ x => x) z
    | false => rw [selB_f] at z ⊢; exact lc_inv I ds _ s1 z st e
/-- a pure comprehension -/
theorem lc_map {f : D → Env → Option Env} {t : Env → M Ex Bool} {a : Env → M Ex D} {ρ : Env} {QL : List D → S → Prop} {E : Ex → S → Prop} (k : D → Bool) (g : D → D) :
    ∀ (ds acc : List D) (s : S), (∀ d ∈ ds, ∃ ρ1, f d ρ = some ρ1 ∧ t ρ1 = pureM (k d) ∧ (k d = true → a ρ1 = pureM (g d))) → QL (acc ++ (ds.filter k).map g) s → lcLoop (fun _ => True) f t a ρ ds acc s QL E
  | [], acc, s, _, q => ⟨trivial, by simpa using q⟩
  | d :: ds, acc, s, h, q => by
    obtain ⟨ρ1, h1, h2, h3⟩ := h d List.mem_cons_self
    rw [x_lc_cons]
    refine ⟨trivial, ρ1, h1, ?_⟩
    rw [h2, x_pure]
    cases e : k d with
    | true =>
      rw [selB_t, h3 e, x_pure]
      refine lc_map k g ds _ s (fun x hx => h x (List.mem_cons_of_mem _ hx)) ?_
      rw [List.filter_cons, e] at q
      simpa using q
    | false =>
      rw [selB_f]
      refine lc_map k g ds _ s (fun x hx => h x (List.mem_cons_of_mem _ hx)) ?_
      rw [List.filter_cons, e] at q
      simpa using q
/-- two statements in a row, by what holds between them -/
theorem seq_cut {p r : Env → MS} [MB p] {ρ : Env} {QF : Fl → S → Prop} {EE : Ex × Env → S → Prop} (I : Env → S → Prop) (h1 : p ρ s (fun f s' => thenF (fun ρ' s'' _ _ => I ρ' s'') f s' QF EE) EE) (h2 : ∀ ρ' s', I ρ' s' → r ρ' s' QF EE) : seqS p r ρ s QF EE := by
  refine MB.mono (m := p) ρ _ _ _ _ _ (fun f s' k => ?_) (fun _ _ x => x) h1
  cases f with
  | nx ρ' => exact h2 ρ' s' k
  | _ => exact k
end DL

namespace DL
def runs_D15 := And.intro @isi_non_bool (And.intro @isi_non_int (And.intro @isi_non_str (And.intro @isi_non_tuple (And.intro @isi_non_list (And.intro @isi_non_dict (And.intro @isi_bl_bool (And.intro @isi_bl_int (And.intro @isi_bl_str (And.intro @isi_bl_tuple (And.intro @isi_bl_list (And.intro @isi_bl_dict (And.intro @isi_int_bool (And.intro @isi_int_int (And.intro @isi_int_str (And.intro @isi_int_tuple (And.intro @isi_int_list (And.intro @isi_int_dict (And.intro @isi_str_bool (And.intro @isi_str_int (And.intro @isi_str_str (And.intro @isi_str_tuple (And.intro @isi_str_list (And.intro @isi_str_dict (And.intro @isi_tup_bool (And.intro @isi_tup_int (And.intro @isi_tup_str (And.intro @isi_tup_tuple (And.intro @isi_tup_list (And.intro @isi_tup_dict (And.intro @isi_lst_bool (And.intro @isi_lst_int (And.intro @isi_lst_str (And.intro @isi_lst_tuple (And.intro @isi_lst_list (And.intro @isi_lst_dict (And.intro @isi_dic_bool (And.intro @isi_dic_int (And.intro @isi_dic_str (And.intro @isi_dic_tuple (And.intro @isi_dic_list (And.intro @isi_dic_dict (And.intro @add_int (And.intro @sub_int (And.intro @lt_int (And.intro @le_int (And.intro @gt_int (And.intro @ge_int (And.intro @eq_int (And.intro @eq_str (And.intro @eq_bl (And.intro @ne_int (And.intro @ne_str (And.intro @ne_bl (And.intro @is_non (And.intro @isnt_non (And.intro @isNon_non (And.intro @isNon_str (And.intro @isNon_tup (And.intro @isNon_ins (And.intro @le_sz0 (And.intro @le_sz1 (And.intro @le_sz2 (And.intro @le_sz3 (And.intro @le_sz4 (And.intro @le_sz5 (And.intro @le_sz6 (And.intro @le_sz7 (And.intro @le_sz8 (And.intro @le_sz9 (And.intro @le_sz10 (And.intro @le_sz11 (And.intro @le_sz12 (And.intro @le_sz13 (And.intro @le_sz14 (And.intro @le_sz15 (And.intro @le_sz16 (And.intro @le_sz17 (And.intro @le_sz18 (And.intro @le_sz19 (And.intro @le_sz20 (And.intro @le_sz21 (And.intro @le_sz22 (And.intro @le_sz23 (And.intro @le_sz24 (And.intro @le_sz25 (And.intro @le_sz26 (And.intro @le_sz27 (And.intro @le_sz28 (And.intro @le_sz29 (And.intro @le_sz30 (And.intro @le_sz31 (And.intro @len_tup (And.intro @len_lst (And.intro @ix_tup (And.intro @ix_lst (And.intro @tupOf_tup (And.intro @lstOf_lst (And.intro @srcP_lst (And.intro @listF_tup (And.intro @listF_lst (And.intro @tupleF_tup (And.intro @tupleF_lst (And.intro @isStr_str (And.intro @e_true_and (And.intro @e_exU (And.intro @e_notT (@e_notF)))))))))))))))))))))))))))))))))))))))))))))))))))))))))))))))))))))))))))))))))))))))))))))))))))))))))))
end DL
/-! ### == and != of own instances; == of tuples of such -/
namespace DL
open PySem L2
theorem ne_bind (self : Value) : bindSpecial (.builtin "object.__ne__") self = pure (.builtin "object.__ne__", [self]) :=
  (Slot.of (T := "object") (name := "__ne__") (owner := "object") (n := "__ne__") (by rw [typeLookup_type, builtinLookup_eq_fast]; kernel_rfl) (by decide +kernel) (by decide +kernel) (by decide +kernel)
    (.inl (by decide +kernel)) (by rw [isSubtype_type]; kernel_rfl)).bind self
section
open PySem.W
variable {prog : Program} {w : World} {A : Around} {E : Value → Shared → Prop} {s : Shared} {K : Frag} {x C f : Addr} {ox : Obj} {od : Option Obj} {b tb : Value}
theorem ne_try {Q : Option Value → Shared → Prop} (hu : A.units + 1 < cLine) (X : K.In s.heap) (I : InstAt s.heap x ox C od)
    (hsn : findIn K (.ref C) "__ne__" = some (some (.builtin "object.__ne__"))) (hse : findIn K (.ref C) "__eq__" = some (some (.ref f))) (hf : isFn K (.ref f) = true) (hm : mroIn K C (.type "object") = some true)
    (h : wpAny (model prog w) A.in1 (call (.ref f) [.ref x, b]) (fun v s' => ∃ k, v = .bool k ∧ Q (some (.bool (!k))) s') E s) :
    wpAny (model prog w) A (tryCompare (.ref x) "__ne__" b) Q E s := by
  obtain ⟨hp, g, d, t, os⟩ := s
  have L0 := I.type (M := model prog w)
  have L1 := looks_mroIn (M := model prog w) X hm
  unfold tryCompare
  refine wpAny_bind ?_
  simp only [callSpecialIfBound?, bindSpecialIfBound?]
  refine wpAny_holding (wpAny_bind (wpAny_bind (wpAny_bind (I.type.here ((looks_findIn X hsn).here ?_)))))
  refine wpAny_bind (wpAny_askSetting (wpAny_ite ?_))
  have fin : wpAny (model prog w) A (call (.builtin "object.__ne__") ([.ref x] ++ [b]) >>= fun v => pure (some v)) (fun r s' => ∃ k, r = some (.bool k) ∧ Q (some (.bool k)) s') E ⟨hp, g, d, t, os⟩ := by
    refine wpAny_bind (wpAny_call (codeAny_call_builtin (by decide +kernel) PySem.F.cmpEntry_ne ?_))
    have args : ∀ sig, Manifest.signature? "object.__ne__" = some sig → Bind.checkArgs "object.__ne__" sig ⟨[.ref x, b], []⟩ = pure () := fun sig e => by
      have ha := PySem.F.cmpArgs_ne (.ref x) b
      simp only [argsOk, e] at ha
      exact ha
    simp only [checkBuiltinCall, PySem.F.cmpKind_ne, PySem.F.cmpSplit_ne]
    refine wpAny_bind ?_
    unfold isInstance
    have hu1 : A.in1.units < cLine := hu
    repeat (fail_if_success (with_reducible refine wpAny_bind (m := callSpecialIfBound? (.ref x) (Str.ofString "__eq__") [b]) ?_)
            first | with_reducible refine wpAny_cRoomFor hu1 ?_ | lk)
    refine wpAny_bind (m := callSpecialIfBound? (.ref x) (Str.ofString "__eq__") [b]) (ifBound_K X I hse hf ?_)
    refine wpAny_mono h (fun v s' hv => ?_) fun _ _ e => e
    obtain ⟨k, rfl, hq⟩ := hv
    refine wpAny_bind (m := truthy (.bool k)) (wpAny_truthy_bool ?_)
    exact wpAny_pure (wpAny_pure ⟨!k, rfl, hq⟩)
  split
  · refine wpAny_bind ?_
    rw [ne_bind]
    refine wpAny_pure (wpAny_pure (wpAny_mono fin (fun r s' hr => ?_) fun _ _ e => e))
    obtain ⟨k, rfl, hq⟩ := hr
    exact wpAny_pure hq
  · refine wpAny_tryCatch (wpAny_bind ?_)
    rw [ne_bind]
    refine wpAny_pure (wpAny_pure (wpAny_mono fin (fun r s' hr => ?_) fun _ _ e => e))
    obtain ⟨k, rfl, hq⟩ := hr
    exact wpAny_pure hq
end
section
open PySem.W
variable {prog : Program} {w : World} {A : Around} {E : Value → Shared → Prop} {s : Shared} {K : Frag} {x C f : Addr} {ox : Obj} {od : Option Obj} {b tb : Value}
theorem ne_cmp {Q : Value → Shared → Prop} (hu : A.units + 1 < cLine) (X : K.In s.heap) (I : InstAt s.heap x ox C od) (hb : Looks (model prog w) s.heap (typeOf b) tb) (hn : notFirst K C tb = true)
    (hsn : findIn K (.ref C) "__ne__" = some (some (.builtin "object.__ne__"))) (hse : findIn K (.ref C) "__eq__" = some (some (.ref f))) (hf : isFn K (.ref f) = true) (hm : mroIn K C (.type "object") = some true)
    (h : wpAny (model prog w) A.in1 (call (.ref f) [.ref x, b]) (fun v s' => ∃ k, v = .bool k ∧ Q (.bool (!k)) s') E s) : wpAny (model prog w) A (richCompare .NotEq (.ref x) b) Q E s := by
  have one : wpAny (model prog w) A (tryCompare (.ref x) (cmpInfo .NotEq).2.1 b) (fun r s' => ∃ v, r = some v ∧ Q v s') E s :=
    ne_try hu X I hsn hse hf hm (wpAny_mono h (fun v s' hv => by obtain ⟨k, rfl, hq⟩ := hv; exact ⟨k, rfl, _, rfl, hq⟩) fun _ _ e => e)
  unfold richCompare
  simp only [oneThing_ref]
  refine wpAny_holding (wpAny_bind (wpAny_cRoomFor (Nat.lt_of_succ_lt hu) ?_))
  refine wpAny_bind (I.type.here (wpAny_bind (hb.here ?_)))
  split
  · rename_i q
    have e : subIn K tb (.ref C) = some false := by
      rcases Bool.or_eq_true_iff.mp hn with e | e
      · rw [beq_iff_eq.mp e] at q; simp at q
      · exact beq_iff_eq.mp e
    refine wpAny_bind ((looks_subIn X e).here ?_)
    simp only [Bool.false_eq_true, if_false]
    refine wpAny_bind (wpAny_mono one (fun r s' z => ?_) fun _ _ e => e)
    obtain ⟨v, rfl, hq⟩ := z
    exact wpAny_pure hq
  · refine wpAny_bind (wpAny_pure ?_)
    simp only [Bool.false_eq_true, if_false]
    refine wpAny_bind (wpAny_mono one (fun r s' z => ?_) fun _ _ e => e)
    obtain ⟨v, rfl, hq⟩ := z
    exact wpAny_pure hq
end

section
variable {prog : Program} {w : World}
/-- tuple == tuple, whatever the items' own == does -/
theorem tuple_eqW (l b : Addr) (items items2 : Array Value) (n n2 : Nat) (dd dd2 : Option Addr) (sl sl2 : Array (Option Value)) (J : Nat → Shared → Prop) :
    MeetsIn prog w (Builtin.«tuple.__eq__» ⟨[.ref l, .ref b], []⟩)
      (fun A R s => s.heap.get? l = some { cls := .type "tuple", dict := dd, data := .seq items n, slots := sl } ∧ s.heap.get? b = some { cls := .type "tuple", dict := dd2, data := .seq items2 n2, slots := sl2 } ∧ J 0 s ∧
        (∀ j s' (h1 : j < items.size) (h2 : j < items2.size), J j s' → wpAny (model prog w) A.in1 (eqBool items[j] items2[j]) (fun k s'' => if k = true then J (j + 1) s'' else R (.ok (.ret (.bool false))) s'') (fun e s'' => R (.error e) s'') s') ∧
        ∀ s', J (min items.size items2.size) s' → R (.ok (.ret (.bool (items.size == items2.size)))) s') :=
  .of_wp fun A R s h => by
    obtain ⟨hp, g, d, tk, os⟩ := s; obtain ⟨hl, hb, h0, he, h⟩ := h
    have f2 := AutoSeq1.sub_tuple_tuple
    have hZ : (items.toList.zip items2.toList).length = min items.size items2.size := by simp
    wp_walk using wpAny_loadPart' hl, wpAny_loadPart' hb, wpAny_forIn_list _ (fun rest b s' => b.1 = none ∧ ∃ i, i ≤ min items.size items2.size ∧ rest = (items.toList.zip items2.toList).drop i ∧ J i s') _
    case turn =>
      rintro ⟨y, x⟩ rest b s' ⟨hb', i, hi, hz, hR⟩
      have hlt : i < (items.toList.zip items2.toList).length := by
        rcases Nat.lt_or_ge i (items.toList.zip items2.toList).length with h' | h'
        · exact h'
        · rw [List.drop_of_length_le h'] at hz; cases hz
      have hm : i < min items.size items2.size := hZ ▸ hlt
      have h1 : i < items.size := Nat.lt_of_lt_of_le hm (Nat.min_le_left _ _)
      have h2 : i < items2.size := Nat.lt_of_lt_of_le hm (Nat.min_le_right _ _)
      rw [List.drop_eq_getElem_cons hlt] at hz
      injection hz with hyx hrest
      have hy : y = items[i] := by have := congrArg Prod.fst hyx; simpa using this
      have hx : x = items2[i] := by have := congrArg Prod.snd hyx; simpa using this
      subst hy hx
      refine wpAny_bind (wpAny_mono (he i s' h1 h2 hR) (fun k s2 hk => ?_) fun _ _ x => x)
      obtain ⟨hp2, g2, d2, tk2, os2⟩ := s2
      cases k with
      | true =>
        rw [if_pos rfl] at hk
        wp_walk
        exact ⟨rfl, i + 1, hm, hrest, hk⟩
      | false =>
        rw [if_neg Bool.false_ne_true] at hk
        wp_walk
        exact ⟨_, rfl, hk⟩
    case fin =>
      rintro ⟨b1, b2⟩ s' ⟨hb', i, hi, hz, hR⟩
      simp only at hb'
      subst hb'
      have hge : min items.size items2.size ≤ i := by
        rcases Nat.lt_or_ge i (items.toList.zip items2.toList).length with h' | h'
        · rw [List.drop_eq_getElem_cons h'] at hz; cases hz
        · exact hZ ▸ h'
      have : i = min items.size items2.size := Nat.le_antisymm hi hge
      subst this
      obtain ⟨hp2, g2, d2, tk2, os2⟩ := s'
      wp_walk
      exact ⟨_, rfl, by simpa [Builtin.Tuple.tupleCompareSizes] using h _ hR⟩
    case h =>
      exact ⟨rfl, 0, Nat.zero_le _, rfl, h0⟩
/-- tuple != tuple, whatever the items' own == does -/
theorem tuple_neW (l b : Addr) (items items2 : Array Value) (n n2 : Nat) (dd dd2 : Option Addr) (sl sl2 : Array (Option Value)) (J : Nat → Shared → Prop) :
    MeetsIn prog w (Builtin.«tuple.__ne__» ⟨[.ref l, .ref b], []⟩)
      (fun A R s => s.heap.get? l = some { cls := .type "tuple", dict := dd, data := .seq items n, slots := sl } ∧ s.heap.get? b = some { cls := .type "tuple", dict := dd2, data := .seq items2 n2, slots := sl2 } ∧ J 0 s ∧
        (∀ j s' (h1 : j < items.size) (h2 : j < items2.size), J j s' → wpAny (model prog w) A.in1 (eqBool items[j] items2[j]) (fun k s'' => if k = true then J (j + 1) s'' else R (.ok (.ret (.bool true))) s'') (fun e s'' => R (.error e) s'') s') ∧
        ∀ s', J (min items.size items2.size) s' → R (.ok (.ret (.bool (!(items.size == items2.size))))) s') :=
  .of_wp fun A R s h => by
    obtain ⟨hp, g, d, tk, os⟩ := s; obtain ⟨hl, hb, h0, he, h⟩ := h
    have f2 := AutoSeq1.sub_tuple_tuple
    have hZ : (items.toList.zip items2.toList).length = min items.size items2.size := by simp
    wp_walk using wpAny_loadPart' hl, wpAny_loadPart' hb, wpAny_forIn_list _ (fun rest b s' => b.1 = none ∧ ∃ i, i ≤ min items.size items2.size ∧ rest = (items.toList.zip items2.toList).drop i ∧ J i s') _
    case turn =>
      rintro ⟨y, x⟩ rest b s' ⟨hb', i, hi, hz, hR⟩
      have hlt : i < (items.toList.zip items2.toList).length := by
        rcases Nat.lt_or_ge i (items.toList.zip items2.toList).length with h' | h'
        · exact h'
        · rw [List.drop_of_length_le h'] at hz; cases hz
      have hm : i < min items.size items2.size := hZ ▸ hlt
      have h1 : i < items.size := Nat.lt_of_lt_of_le hm (Nat.min_le_left _ _)
      have h2 : i < items2.size := Nat.lt_of_lt_of_le hm (Nat.min_le_right _ _)
      rw [List.drop_eq_getElem_cons hlt] at hz
      injection hz with hyx hrest
      have hy : y = items[i] := by have := congrArg Prod.fst hyx; simpa using this
      have hx : x = items2[i] := by have := congrArg Prod.snd hyx; simpa using this
      subst hy hx
      refine wpAny_bind (wpAny_mono (he i s' h1 h2 hR) (fun k s2 hk => ?_) fun _ _ x => x)
      obtain ⟨hp2, g2, d2, tk2, os2⟩ := s2
      cases k with
      | true =>
        rw [if_pos rfl] at hk
        wp_walk
        exact ⟨rfl, i + 1, hm, hrest, hk⟩
      | false =>
        rw [if_neg Bool.false_ne_true] at hk
        wp_walk
        exact ⟨_, rfl, hk⟩
    case fin =>
      rintro ⟨b1, b2⟩ s' ⟨hb', i, hi, hz, hR⟩
      simp only at hb'
      subst hb'
      have hge : min items.size items2.size ≤ i := by
        rcases Nat.lt_or_ge i (items.toList.zip items2.toList).length with h' | h'
        · rw [List.drop_eq_getElem_cons h'] at hz; cases hz
        · exact hZ ▸ h'
      have : i = min items.size items2.size := Nat.le_antisymm hi hge
      subst this
      obtain ⟨hp2, g2, d2, tk2, os2⟩ := s'
      wp_walk
      exact ⟨_, rfl, by simpa [Builtin.Tuple.tupleCompareSizes, bne] using h _ hR⟩
    case h =>
      exact ⟨rfl, 0, Nat.zero_le _, rfl, h0⟩
end
end DL

namespace DL
open PySem L2
variable {g : G} {Z F F' H H' : Hp} {W : WX} {σ : St} {ρ : Env} {st : S} {X : Cx} {e e1 e2 : Expr} {pos : Pos}
/-! ### operators that run code -/
abbrev PM := D → D → M Ex D
def rM (g : G) (p : PM) : R2 := fun x y H Q => ∃ Z F st dx dy, Sim g Z st F H ∧ RelD g F dx x ∧ RelD g F dy y ∧ p dx dy st (Res g (RelD g) Z F Q) (fun _ _ => False)
def op2M (p : PM) (a b : Env → M Ex D) : Env → M Ex D := fun ρ => bindM (a ρ) fun x => bindM (b ρ) fun y => noX (p x y)
class MP (p : PM) : Prop where
  mono : ∀ x y, Mono (p x y)
theorem mono_op2M {p : PM} {a b : Env → M Ex D} [MP p] (ha : ∀ ρ, Mono (a ρ)) (hb : ∀ ρ, Mono (b ρ)) (ρ : Env) : Mono (op2M p a b ρ) := mono_bind (ha ρ) fun _ => mono_bind (hb ρ) fun _ => mono_noX (MP.mono _ _)
instance {p : PM} {a b : Env → M Ex D} [MP p] [MB a] [MB b] : MB (op2M p a b) := ⟨mono_op2M MB.mono MB.mono⟩
theorem x_op2M {p : PM} {a b : Env → M Ex D} {s : S} {Q : D → S → Prop} {E : Ex → S → Prop} : op2M p a b ρ s Q E = a ρ s (fun x s1 => b ρ s1 (fun y s2 => p x y s2 Q (fun _ _ => False)) E) E := rfl
theorem tX.op2M {p : PM} [MP p] {a b : Env → M Ex D} {Q : VK} (ha : ∀ ρ, Mono (a ρ)) (hb : ∀ ρ, Mono (b ρ)) (h : tX g (RelD g) W (DL.op2M p a b) σ H Q) : tOp (rM g p) (tX g (RelD g) W a) (tX g (RelD g) W b) σ H Q := by
  obtain ⟨Z, F, st, ρ, E, N, q⟩ := h
  refine tX.go N (ha ρ) (fun _ => mono_bind (hb ρ) fun _ => mono_noX (MP.mono _ _)) q fun dx x F st H1 e N rx q => ?_
  refine tX.go (R1 := RelD g) N (hb ρ) (fun _ => mono_noX (MP.mono _ _)) q fun dy y F2 st H2 e2 N ry q => ?_
  exact ⟨Z, F2, st, dx, dy, N.sim, rx.mono e2, ry, q⟩
theorem fe_cmpM {op : CmpOp} {p : PM} [MP p] {a b : Env → M Ex D} (ho : OpR X (compareOp op) (rM g p)) (ha : FE g X W e1 a) (hb : FE g X W e2 b) (hm : behindInMarks op e2 = false) : FE g X W (.Compare e1 [op] [e2] pos) (op2M p a b) :=
  ⟨PE.imp (pe_cmpR ho ha.pe hb.pe hm) fun _ _ _ q => tX.op2M ha.mono hb.mono q, mono_op2M ha.mono hb.mono⟩
theorem ft_cmpM {op : CmpOp} {p : PM} [MP p] {a b : Env → M Ex D} (ho : OpR X (compareOp op) (rM g p)) (ha : FE g X W e1 a) (hb : FE g X W e2 b) (hm : behindInMarks op e2 = false) : FT g X W (.Compare e1 [op] [e2] pos) (liftT (op2M p a b)) :=
  ⟨PT.imp (pt_cmpR ho ha.pe hb.pe hm) fun _ _ _ q => tX.op2M ha.mono hb.mono (tX.test (mono_op2M ha.mono hb.mono) q), mono_liftT (mono_op2M ha.mono hb.mono)⟩
theorem takes_never [Kd] : Takes X WN := takB_no fun _ _ _ _ w => w
/-- what the own == of the class c leans on -/
structure EqC (g : G) (cs : List Str) (c : Str) (f : Addr) : Prop where
  mem : c ∈ cs
  eq : PySem.W.findIn g.K (.ref (g.cl c)) "__eq__" = some (some (.ref f))
  fn : PySem.W.isFn g.K (.ref f) = true
  ne : PySem.W.findIn g.K (.ref (g.cl c)) "__ne__" = some (some (.builtin "object.__ne__"))
  mro : PySem.W.mroIn g.K (g.cl c) (.type "object") = some true
  nfb : ∀ t ∈ baseTys, PySem.W.notFirst g.K (g.cl c) (.type t) = true
  nfc : ∀ c' ∈ cs, PySem.W.notFirst g.K (g.cl c) (.ref (g.cl c')) = true
/-- of what type the other side is -/
def tyAny (cs : List Str) (st : S) (y : D) : Option Unit := match tyS st y with
  | some _ => some ()
  | none => (clsS st y).bind fun c => if c ∈ cs then some () else none
theorem tyAny_ok {cs : List Str} {c : Str} {f : Addr} {y : D} {v : V} (o : OwnTy g cs) (q : EqC g cs c f) (sim : Sim g Z st F H) (r : RelD g F y v) (h : tyAny cs st y = some ()) : ∃ t, TyX g.K H v t ∧ PySem.W.notFirst g.K (g.cl c) t = true := by
  unfold tyAny at h
  split at h
  · rename_i t ht
    exact ⟨_, sim.tyS r ht, q.nfb t (tyS_base ht)⟩
  · obtain ⟨c', h1, h2⟩ := Option.bind_eq_some_iff.mp h
    split at h2
    · rename_i hc
      obtain ⟨a, dx, fs, rfl, ha⟩ := sim.clsS r h1
      exact ⟨_, o.ins c' hc ha, q.nfc c' hc⟩
    · cases h2
def isC (st : S) (c : Str) (x : D) : Option Unit := match clsS st x with
  | some c' => if c' = c then some () else none
  | none => none
theorem isC_ok {c : Str} {x : D} {v : V} (sim : Sim g Z st F H) (r : RelD g F x v) (h : isC st c x = some ()) : ∃ a dx fs, v = .ref a ∧ H a = some (.ins (g.cl c) dx fs) := by
  unfold isC at h
  split at h
  · rename_i c' hc
    split at h
    · rename_i e; subst e; exact sim.clsS r hc
    · cases h
  · cases h
/-- x == y (b: the answer turned) -/
def ownM (cs : List Str) (c : Str) (m : Fn) (neg : Bool) : PM := fun x y => bindM (seeM fun st => isC st c x) fun _ => bindM (seeM fun st => tyAny cs st y) fun _ => bindM (m [x, y] []) fun r => bindM (asB r) fun k => pureM (.bl (k ^^ neg))
instance {cs : List Str} {c : Str} {m : Fn} {neg : Bool} [MF m] : MP (ownM cs c m neg) := ⟨fun x y => mono_bind (mono_see _) fun _ => mono_bind (mono_see _) fun _ => mono_bind (MF.mono _ _) fun r => mono_bind (mono_asB r) fun _ => mono_pure _⟩
theorem x_ownM {cs : List Str} {c : Str} {m : Fn} {neg : Bool} {x y : D} {s : S} {Q : D → S → Prop} {E : Ex → S → Prop} : ownM cs c m neg x y s Q E = ∃ v, isC s c x = some v ∧ ∃ v, tyAny cs s y = some v ∧ m [x, y] [] s (fun r s1 => asB r s1 (fun k s2 => Q (.bl (k ^^ neg)) s2) E) E := rfl
section
variable {cs : List Str} {c : Str} {f : Addr} {k : Nat} {m : Fn}
/-- the own == is run -/
theorem run_own [Kd] {A : Around} {pins : List (Addr × Obj)} {s : Shared} {Q : VK} {a : Addr} {y : V} {u : Value} {dx dy : D} {R : Bool → S → Prop} (C : Cal g X.prog X.w X.K X.mg X.base k f [] m) (hM : MonoF m) (hr : Room k A) (ev : Env0 X.prog X.w X.K X.mg X.base A X.stack s H) (I : Inv X pins σ H s) (sim : Sim g Z st F H) (rx : RelD g F dx (.ref a)) (ry : RelD g F dy y) (ryu : RelV y u)
    (q : m [dx, dy] [] st (fun r s1 => asB r s1 (fun k s2 => R k s2) (fun _ _ => False)) (fun _ _ => False)) (h : ∀ k s1 F' H', R k s1 → Same F F' → Sim g Z s1 F' H' → Q (.bl k) H') :
    wpAny (model X.prog X.w) A (call (.ref f) [.ref a, u]) (fun v s' => ∃ k H', v = .bool k ∧ Inv X pins σ H' s' ∧ Q (.bl k) H') X.xe s := by
  have sp : spK g m [.ref a, y] [] H (fun v H' => ∃ k, v = .bl k ∧ Q (.bl k) H') (WE WN σ) := by
    refine ⟨Z, F, st, [dx, dy], [], sim, .cons rx (.one ry), .nil, hM _ _ _ _ _ _ _ (fun r s1 z v F' H' e sim' rv => ?_) (fun _ _ z => z.elim) q⟩
    obtain ⟨k, rfl, z⟩ := asB_inv z
    unfold RelD at rv
    exact ⟨k, rv, h k s1 F' H' z e sim'⟩
  have rr : Vals [V.ref a, y] [Value.ref a, u] := .cons rfl (.cons ryu .nil)
  refine wpAny_call (codeAny_mono (C A X.stack s H [.ref a, u] [] [.ref a, y] [] _ _ hr ev rr .nil sp) fun r s' hq => ?_)
  cases r with
  | error e => exact passAt takes_never σ pins H s e s' I hq
  | ok fl =>
    cases fl with
    | ret u =>
      obtain ⟨z', H', I', rz, k, ek, qz⟩ := I.after hq
      subst ek
      cases (show u = Value.bool k from rz)
      exact ⟨k, H', rfl, I', qz⟩
    | next => exact False.elim hq
    | brk => exact False.elim hq
    | cont => exact False.elim hq
theorem od_own [Kd] (hK : X.K = g.K) (o : OwnTy g cs) (q : EqC g cs c f) (C : Cal g X.prog X.w X.K X.mg X.base k f [] m) (hM : MonoF m) (hr : Room k X.A) : OpR X (compareOp .Eq) (rM g (ownM cs c m false)) := by
  intro pins s σ H x y v u Q I rx ry ⟨Z, F, st, dx, dy, sim, hx, hy, _, h1, _, h2, h3⟩
  obtain ⟨a, dd, fs, rfl, ha⟩ := isC_ok sim hx h1
  cases (show v = Value.ref a from rx)
  obtain ⟨mA, O, rr, _⟩ := ins_get I.hok ha
  obtain ⟨od, J, _⟩ := O.look
  obtain ⟨t, ty, hn⟩ := tyAny_ok o q sim hy h2
  rw [← hK] at ty hn
  obtain ⟨P, Z2, p, _⟩ := kit_of I ry ty
  obtain ⟨fm, hF⟩ := I.fr
  show wpAny _ _ (richCompare .Eq (.ref a) u) _ _ _
  refine PySem.W.cmp_K (op := .Eq) (tb := t) hr.units0 hF I.ok.mod.kin J (Z2.ty _ _ I.kIn p) hn (by rw [hK]; exact q.eq) (by rw [hK]; exact q.fn) ?_
  refine wpAny_mono (run_own (Q := Q) C hM hr I.env0 I sim hx hy ry h3 fun k s1 F' H' z e sim' => ?_) (fun v s' ⟨k, H', e, I', z⟩ => ?_) fun _ _ x => x
  · have := z (.bl (k ^^ false)) F' H' e sim' relD_bl
    simpa using this
  · subst e
    exact ⟨.bl k, H', I', rfl, z⟩
theorem od_ownN [Kd] (hK : X.K = g.K) (o : OwnTy g cs) (q : EqC g cs c f) (C : Cal g X.prog X.w X.K X.mg X.base k f [] m) (hM : MonoF m) (hr : Room (k + 1) X.A) : OpR X (compareOp .NotEq) (rM g (ownM cs c m true)) := by
  intro pins s σ H x y v u Q I rx ry ⟨Z, F, st, dx, dy, sim, hx, hy, _, h1, _, h2, h3⟩
  obtain ⟨a, dd, fs, rfl, ha⟩ := isC_ok sim hx h1
  cases (show v = Value.ref a from rx)
  obtain ⟨mA, O, rr, _⟩ := ins_get I.hok ha
  obtain ⟨od, J, _⟩ := O.look
  obtain ⟨t, ty, hn⟩ := tyAny_ok o q sim hy h2
  rw [← hK] at ty hn
  obtain ⟨P, Z2, p, _⟩ := kit_of I ry ty
  show wpAny _ _ (richCompare .NotEq (.ref a) u) _ _ _
  have hu : X.A.units + 1 < cLine := by have := hr.units; omega
  refine ne_cmp (tb := t) hu I.kIn J (Z2.ty _ _ I.kIn p) hn (by rw [hK]; exact q.ne) (by rw [hK]; exact q.eq) (by rw [hK]; exact q.fn) (by rw [hK]; exact q.mro) ?_
  refine wpAny_mono (run_own (Q := fun v H' => ∃ k, v = V.bl k ∧ Q (V.bl !k) H') C hM hr.in1 I.env0.in1 I sim hx hy ry h3 fun k s1 F' H' z e sim' => ?_) (fun v s' ⟨k, H', e, I', k', ek, z⟩ => ?_) fun _ _ x => x
  · have := z (.bl (k ^^ true)) F' H' e sim' relD_bl
    exact ⟨k, rfl, by simpa using this⟩
  · subst e
    cases ek
    exact ⟨k, rfl, .bl (!k), H', I', rfl, z⟩
end
end DL

namespace DL
def runs_D16 := And.intro @x_op2M (@x_ownM)
end DL
namespace DL
open PySem L2
variable {g : G} {Z F F' H H' : Hp} {W : WX} {σ : St} {ρ : Env} {st : S} {X : Cx} {e e1 e2 : Expr} {es : List Expr} {pos p : Pos}
/-! ### dicts of the module -/
def tabD (c : Str) (t : List (Str × D)) : P2 := fun x y _ => match x, y with
  | .cst c', .str z => if c' = c then t.lookup z else none
  | _, _ => none
def tabB (K : PySem.W.Frag) (a : Addr) (t : List (Str × D)) : Bool := t.all fun q => match PySem.W.nsIn K a q.1 with
  | some (some u) => relW K q.2 u
  | _ => false
structure TabOk (g : G) (w : World) (c : Str) (t : List (Str × D)) : Prop where
  dict : ∃ es n, KDict g.K w (g.cs c) es n
  vals : tabB g.K (g.cs c) t = true
theorem lookup_mem {z : Str} {d : D} : ∀ {t : List (Str × D)}, t.lookup z = some d → (z, d) ∈ t
  | [], h => by cases h
  | (a, b) :: t, h => by
    rw [List.lookup_cons] at h
    by_cases e : (z == a) = true
    · rw [e] at h
      have h1 : z = a := by simpa using e
      cases h
      rw [h1]
      exact List.mem_cons_self ..
    · rw [Bool.not_eq_true] at e
      rw [e] at h
      exact List.mem_cons_of_mem _ (lookup_mem h)
theorem ixr_tab {c : Str} {t : List (Str × D)} (hK : X.K = g.K) (T : TabOk g X.w c t) : IxR X (r2 g (tabD c t)) := by
  intro value slice pins s σ H x y v u Q I rx ry ⟨Z, F, st, dx, dy, d, sim, hx, hy, e, q⟩ hs
  refine ix_kdict value slice pins s σ H x y v u Q I rx ry ?_ hs
  unfold tabD at e
  split at e
  · rename_i c' z
    split at e
    · rename_i ec
      subst ec
      unfold RelD at hx hy
      have h2 := List.all_eq_true.mp T.vals (z, d) (lookup_mem e)
      obtain ⟨es, n, D⟩ := T.dict
      cases e2 : PySem.W.nsIn g.K (g.cs c') z with
      | none => simp only [e2] at h2; cases h2
      | some r =>
        cases r with
        | none => simp only [e2] at h2; cases h2
        | some u0 =>
          simp only [e2] at h2
          obtain ⟨r1, r2⟩ := relW_ok (g := g) rfl h2
          rw [hK]
          exact ⟨_, z, _, hx, hy, ⟨es, n, u0, D.at_, D.lit, e2, r1⟩, q _ F H (Same.refl _) sim (r2 F)⟩
    · cases e
  · cases e
theorem tab_eq {c z : Str} {t : List (Str × D)} {s : S} : tabD c t (.cst c) (.str z) s = t.lookup z := by unfold tabD; simp
/-! ### *args -/
def starF (n : Nat) (m : List D → M Ex D) : Fn := fun ds es => match es with
  | [] => if n ≤ ds.length ∧ ds.length ≤ n + sizeLine then m (ds.take n ++ [.tup (ds.drop n)]) else failM
  | _ => failM
instance {n : Nat} {m : List D → M Ex D} [MD m] : MF (starF n m) := ⟨fun ds es => by
  cases es with
  | nil => exact mono_ite (MD.mono _) mono_fail
  | cons _ _ => exact mono_fail⟩
theorem relDs_take {ds : List D} {vs : List V} (n : Nat) : RelDs g F ds vs → RelDs g F (ds.take n) (vs.take n) ∧ RelDs g F (ds.drop n) (vs.drop n) := by
  induction ds generalizing vs n with
  | nil => intro r; cases r.nil_inv; simp; exact .nil
  | cons d ds ih =>
    intro r
    obtain ⟨v, vs, rfl, r1, r2⟩ := r.cons_inv
    cases n with
    | zero => simp; exact ⟨.nil, .cons r1 r2⟩
    | succ n => simp only [List.take_succ_cons, List.drop_succ_cons]; exact ⟨.cons r1 (ih n r2).1, (ih n r2).2⟩
theorem fn_okS [Kd] {P : Program} {w : World} {K : PySem.W.Frag} {mg : Str → Option Value} {base : Heap} {x qual pv : Str} {params : Arguments} {body : List Stmt} {scope : Scope} {dvs : List V} {kws : List (Str × V)} {f : Addr} {fd : FuncData} {N ps : List Str} {k n : Nat} {b : Env → MS} [MB b]
    (Fu : FunD K x qual params body scope dvs kws f fd) (Sc : FnScope N (ps ++ [pv]) scope) (hn : N.length = n)
    (hbd : ∀ (dV kV doc pm : Value) (an : Option Addr) (cdv ct : Value), DflV K dV dvs → KwdV K kV kws → ∀ (us rest : List Value), us.length = ps.length → bindArgs (PySem.W.fnOf x qual params body scope dV kV doc pm an cdv ct) ⟨us ++ rest, []⟩ = (newTuple rest >>= fun t => pure (ps.zip us ++ [(pv, t)])))
    (hb : ∀ (cdv : Value) (A : Around) (outer : List PySem.Env) (s : Shared) (H : Hp) (E : XK), Room k (A.deeper (PyProof.Rows.envOfC qual scope s.heap.objs.size f cdv)) → Takes (cxOf (XCX P w) P w K mg base N qual scope f cdv A outer s H E) (fun u d _ H => E u d H) →
      FB g (cxOf (XCX P w) P w K mg base N qual scope f cdv A outer s H E) (fun u d _ H => E u d H) body b) : Cal g P w K mg base (k + 1) f [] (starF ps.length (defM n b)) := by
  obtain ⟨oc, od, dV, kV, doc, pm, an, cdv, ct, osl, rfl, lk, hcd, hd1, hd2⟩ := Fu.ex
  have R := StX.fn_star (k := k) (P := P) (w := w) (mg := mg) (base := base) (sp := spD g (ps ++ [pv]).length (defM n b)) lk hcd Sc cxUp (hbd dV kV doc pm an cdv ct hd1 hd2) fun A outer s H vs Q E hr ⟨Z, F, st, ds, hl, sim, r, q⟩ => ⟨_, (hb cdv A outer s H E hr (takes_of rfl rfl rfl rfl)).ps, by
    refine ⟨Z, F, st, _, fun x _ s => ∀ u d F' H', Same F F' → Sim g Z s F' H' → RelEx g F' u d x → E u d H', ⟨sim, renv_start r n hn, fun x ρ st' F' H' u d σ e sim' _ rx h => h u d F' H' e sim' rx⟩, ?_⟩
    refine (hb cdv A outer s H E hr (takes_of rfl rfl rfl rfl)).mono _ _ _ _ _ _ (fun fl s' h => ?_) (fun _ _ h => h) q
    cases fl with
    | nx ρ' => exact fun σ' F' H' e sim' _ => h .non F' H' e sim' relD_non
    | rt d => exact h
    | bk _ => exact h.elim
    | ct _ => exact h.elim⟩
  intro A outer s H us ws vs zs Q E room env r rz ⟨Z, F, st, ds, es, sim, h1, h2, q⟩
  cases es with
  | cons _ _ => exact q.elim
  | nil =>
  have hz := h2.nil_inv
  subst hz
  cases rz
  replace q : (if ps.length ≤ ds.length ∧ ds.length ≤ ps.length + sizeLine then defM n b (ds.take ps.length ++ [.tup (ds.drop ps.length)]) else failM) st (Res g (RelD g) Z F Q) (excD g Z F E) := q
  by_cases hj : ps.length ≤ ds.length ∧ ds.length ≤ ps.length + sizeLine
  · rw [if_pos hj] at q
    have hl := h1.len
    obtain ⟨t1, t2⟩ := relDs_take ps.length h1
    refine R A outer s H us vs Q E room env r ⟨vs.take ps.length, vs.drop ps.length, (List.take_append_drop _ _).symm, by rw [List.length_take]; omega, by rw [List.length_drop]; omega, fun p hp => ?_⟩
    have sm := same_upd (o := .tup (vs.drop ps.length)) (sim.free hp).1
    refine ⟨Z, _, st, ds.take ps.length ++ [.tup (ds.drop ps.length)], by simp; omega, sim.new hp, (t1.mono sm).append (.one (by unfold RelD; exact ⟨p, _, rfl, SqT.of upd_same, t2.mono sm⟩)), ?_⟩
    refine mono_defM MB.mono _ _ _ _ _ _ (fun _ _ z => z.mono sm) (fun _ _ z u d F' H' e => z u d F' H' (sm.trans e)) q
  · rw [if_neg hj] at q; exact q.elim
/-- *e among the arguments -/
def argsS (m : Env → M Ex D) (n : Env → M Ex (List D)) : Env → M Ex (List D) := fun ρ => bindM (m ρ) fun d => bindM (seeM fun st => seqD st d) fun xs => bindM (n ρ) fun ys => pureM (xs ++ ys)
theorem x_argsS {m : Env → M Ex D} {n : Env → M Ex (List D)} {s : S} {Q : List D → S → Prop} {E : Ex → S → Prop} : argsS m n ρ s Q E = m ρ s (fun d s1 => ∃ xs, seqD s1 d = some xs ∧ n ρ s1 (fun ys s2 => Q (xs ++ ys) s2) E) E := rfl
instance {m : Env → M Ex D} {n : Env → M Ex (List D)} [MB m] [MB n] : MB (argsS m n) := ⟨fun ρ => mono_bind (MB.mono ρ) fun _ => mono_bind (mono_see _) fun _ => mono_bind (MB.mono ρ) fun _ => mono_pure _⟩
theorem seqD_ok {d : D} {v : V} {xs : List D} (sim : Sim g Z st F H) (r : RelD g F d v) (h : seqD st d = some xs) : ∃ a vs, v = .ref a ∧ (SqT g.K H a vs ∨ SqL g.K H a vs) ∧ RelDs g F xs vs := by
  cases d with
  | tup ds =>
    cases (Option.some.inj h)
    unfold RelD at r
    obtain ⟨a, us, rfl, h2, h3⟩ := r
    exact ⟨a, us, rfl, .inl (sqT_mono sim.same h2), h3⟩
  | lst ds =>
    cases (Option.some.inj h)
    unfold RelD at r
    obtain ⟨a, us, rfl, h2, h3⟩ := r
    exact ⟨a, us, rfl, .inr (SqL.of (sim.same _ _ h2)), h3⟩
  | ref a =>
    unfold RelD at r
    subst r
    obtain ⟨us, h2, h3⟩ := sim.lst h
    exact ⟨a, us, rfl, .inr (SqL.of h2), h3⟩
  | _ => cases h
theorem fa_star {m : Env → M Ex D} {n : Env → M Ex (List D)} (hK : X.K = g.K) (h : FE g X W e m) (k : FA g X W es n) (hs : starEach (.Starred e p :: es) X.env = (true, eval e X.env) :: starEach es X.env := by rfl) : FA g X W (.Starred e p :: es) (argsS m n) :=
  ⟨PA.imp (StX.pa_star h.pe k.pa hs) fun _ _ _ ⟨Z, F, st, ρ, E, N, q⟩ => tX.go N (h.mono ρ) (fun _ => mono_bind (mono_see _) fun _ => mono_bind (k.mono ρ) fun _ => mono_pure _) q fun d v F st H1 e N r q => by
    obtain ⟨xs, hx, q⟩ := q
    obtain ⟨a, vs, rfl, hv, rv⟩ := seqD_ok N.sim r hx
    rw [hK]
    exact ⟨a, vs, rfl, hv, tX.go (R1 := RelDs g) N (k.mono ρ) (fun _ => mono_pure _) q fun ds vs F2 st2 H2 e2 N2 r2 q2 => tX.done (R := RelDs g) N2 ((rv.mono e2).append r2) q2⟩,
  fun ρ => mono_bind (h.mono ρ) fun _ => mono_bind (mono_see _) fun _ => mono_bind (k.mono ρ) fun _ => mono_pure _⟩
section
variable {k i : Nat} {f : Addr} {m : Fn} {x : Str} {a : Env → M Ex (List D)} {c : Str} {fin : D → M Ex D}
theorem spK_of {E : Ex → Env → S → Prop} {Q : VK} (hM : MonoF m) (ha : FA g X W es a) (N : Now g W Z σ H F ρ st E) (q : callE m a argsN ρ st (Res g (RelD g) Z F Q) (fun x s => E x ρ s)) : tX g (RelDs g) W a σ H fun vs H1 => spK g m vs [] H1 Q (WE W σ) :=
  tX.go (R1 := RelDs g) N (ha.mono ρ) (fun _ => mono_bind (mono_pure _) fun _ => hM _ _) q fun ds vs F2 st H2 e2 N r2 q => ⟨Z, F2, st, ds, [], N.sim, r2, .nil, hM _ _ _ _ _ _ _ (fun _ _ z => z) (fun _ _ z => N.exc z) q⟩
/-- C(e, .., *y) -/
theorem fe_makeS [Kd] (hf : Fin g fin) (Mk : Mk X.K (g.cl c) f) (C : Cal g X.prog X.w X.K X.mg X.base k f [] m) (hM : MonoF m) (hr : Room (k + 1) X.A) (tk : Takes X W) (hg : Gl X x) (hm : X.mg x = some (.ref (g.cl c))) (ha : FA g X W (e :: es) a)
    (hdb : (x == ("__debug__" : Str)) = false := by decide) (he : starEach (e :: es) X.env = (false, eval e X.env) :: starEach es X.env := by rfl) (hst : (backTo pos (starEach es X.env)).any (·.1) = true := by rfl) :
    FE g X W (.Call (.Name x p) (e :: es) [] pos) (callE (mkM c m fin) a argsN) := by
  have hM2 := mono_mkM (c := c) hM hf.mono
  refine ⟨⟨fun pins s σ H Q I ⟨Z, F, st, ρ, E, N, q⟩ => ?_⟩, mono_callE hM2 ha.mono fun _ => mono_pure _⟩
  refine wpAny_Call_Name_kw (ld_glob I hg hm ?_ hdb)
  refine PySem.W.callWith_S2 (h₀ := X.base) I.ok.mod.kin Mk.kp (thn (ha.pa.run pos pins s σ H _ I (spK_of hM2 ha N q)) fun us s1 ⟨vs, H1, I1, r, q⟩ => ⟨I1.kIn, ?_⟩) he hst
  exact run_mk (ws := []) (ks := []) Mk C hr tk I1 r .nil fun y dx n1 n2 n3 => mkGo hM hf q n1 n2 n3
theorem fe_makeSL [Kd] (hf : Fin g fin) (Mk : Mk X.K (g.cl c) f) (C : Cal g X.prog X.w X.K X.mg X.base k f [] m) (hM : MonoF m) (hr : Room (k + 1) X.A) (tk : Takes X W) (hN : X.N[i]? = some x) (hv : Vis X.env.scope x) (ha : FA g X W (e :: es) a)
    (hdb : (x == ("__debug__" : Str)) = false := by decide) (hcd : (x == ("__classdict__" : Str)) = false := by decide) (he : starEach (e :: es) X.env = (false, eval e X.env) :: starEach es X.env := by rfl) (hst : (backTo pos (starEach es X.env)).any (·.1) = true := by rfl) :
    FE g X W (.Call (.Name x p) (e :: es) [] pos) (fun ρ => bindM (needM (ρ[i]? = some (some (.cls c)))) fun _ => callE (mkM c m fin) a argsN ρ) := by
  have hM2 := mono_mkM (c := c) hM hf.mono
  refine ⟨⟨fun pins s σ H Q I ⟨Z, F, st, ρ, E, N, hi, q⟩ => ?_⟩, fun ρ => mono_bind (mono_need _) fun _ => mono_callE hM2 ha.mono (fun _ => mono_pure _) ρ⟩
  obtain ⟨v, e', rv⟩ := N.env.2 i _ hi
  unfold RelD at rv
  subst rv
  refine wpAny_Call_Name_kw (thn ((pe_var (pos := p) hN hv hdb hcd).run pins s σ H (fun v H' => v = .ref (g.cl c) ∧ H' = H) I ⟨_, e', rfl, rfl⟩) fun u s0 ⟨v, H0, I0, rv, ev, eH⟩ => ?_)
  subst ev
  subst eH
  cases (show u = Value.ref (g.cl c) from rv)
  refine PySem.W.callWith_S2 (h₀ := X.base) I0.ok.mod.kin Mk.kp (thn (ha.pa.run pos pins s0 σ H0 _ I0 (spK_of hM2 ha N q)) fun us s1 ⟨vs, H1, I1, r, q⟩ => ⟨I1.kIn, ?_⟩) he hst
  exact run_mk (ws := []) (ks := []) Mk C hr tk I1 r .nil fun y dx n1 n2 n3 => mkGo hM hf q n1 n2 n3
end
end DL

namespace DL
def runs_D17 := And.intro @tab_eq (@x_argsS)
end DL
namespace DL
open PySem L2
variable {g : G} {Z F F' H H' : Hp} {W : WX} {σ : St} {ρ : Env} {st : S} {X : Cx} {e e1 e2 : Expr} {es : List Expr} {pos p : Pos}
/-! ### data that say all of their object -/
mutual
def plainD (cs : List Str) : D → Bool
  | .non => true
  | .bl _ => true
  | .int _ => true
  | .str _ => true
  | .tup ds => plainDs cs ds
  | .ins c _ ds => decide (c ∈ cs) && plainDs cs ds
  | _ => false
def plainDs (cs : List Str) : List D → Bool
  | [] => true
  | d :: ds => plainD cs d && plainDs cs ds
end
theorem own_inj {cs : List Str} (o : OwnTy g cs) {c c' : Str} (h : c ∈ cs) (h' : c' ∈ cs) (e : g.cl c = g.cl c') : c = c' := by
  have h1 := o.kit c h c' h'
  have h2 := o.kit c' h' c' h'
  rw [e, h2] at h1
  have := Option.some.inj h1
  have h3 : decide (c' = c) = true := this.symm.trans (decide_eq_true rfl)
  exact (of_decide_eq_true h3).symm
section
variable {pins : List (Addr × Obj)} {s : Shared} {cs : List Str}
theorem ins_no_tup {a C dx : Addr} {fs : List (Str × V)} {vs : List V} (I : Inv X pins σ H s) (h : H a = some (.ins C dx fs)) (t : SqT X.K H a vs) : False := by
  obtain ⟨its, r, ⟨o, e, hc, n, d⟩, _⟩ := I.tuple t
  obtain ⟨mA, O, rr, _⟩ := ins_get I.hok h
  obtain ⟨od, J, _⟩ := O.look
  have e2 := J.at_
  rw [e] at e2
  cases e2
  have e3 := J.cls
  rw [hc] at e3
  cases e3
mutual
theorem relD_inj (hK : X.K = g.K) (o : OwnTy g cs) (I : Inv X pins σ H s) (sim : Same F H) : ∀ {x y : D} {v : V}, plainD cs x = true → plainD cs y = true → RelD g F x v → RelD g F y v → x = y
  | .non, y, v, _, hy, r, q => by
    unfold RelD at r; subst r
    cases y with
    | non => rfl
    | bl _ => unfold RelD at q; cases q
    | int _ => unfold RelD at q; cases q
    | str _ => unfold RelD at q; cases q
    | tup _ => unfold RelD at q; obtain ⟨_, _, z, _⟩ := q; cases z
    | ins _ _ _ => unfold RelD at q; obtain ⟨_, _, _, z, _⟩ := q; cases z
    | _ => cases hy
  | .bl b, y, v, _, hy, r, q => by
    unfold RelD at r; subst r
    cases y with
    | non => unfold RelD at q; cases q
    | bl _ => unfold RelD at q; cases q; rfl
    | int _ => unfold RelD at q; cases q
    | str _ => unfold RelD at q; cases q
    | tup _ => unfold RelD at q; obtain ⟨_, _, z, _⟩ := q; cases z
    | ins _ _ _ => unfold RelD at q; obtain ⟨_, _, _, z, _⟩ := q; cases z
    | _ => cases hy
  | .int b, y, v, _, hy, r, q => by
    unfold RelD at r; subst r
    cases y with
    | non => unfold RelD at q; cases q
    | bl _ => unfold RelD at q; cases q
    | int _ => unfold RelD at q; cases q; rfl
    | str _ => unfold RelD at q; cases q
    | tup _ => unfold RelD at q; obtain ⟨_, _, z, _⟩ := q; cases z
    | ins _ _ _ => unfold RelD at q; obtain ⟨_, _, _, z, _⟩ := q; cases z
    | _ => cases hy
  | .str b, y, v, _, hy, r, q => by
    unfold RelD at r; subst r
    cases y with
    | non => unfold RelD at q; cases q
    | bl _ => unfold RelD at q; cases q
    | int _ => unfold RelD at q; cases q
    | str _ => unfold RelD at q; cases q; rfl
    | tup _ => unfold RelD at q; obtain ⟨_, _, z, _⟩ := q; cases z
    | ins _ _ _ => unfold RelD at q; obtain ⟨_, _, _, z, _⟩ := q; cases z
    | _ => cases hy
  | .tup ds, y, v, hx, hy, r, q => by
    unfold plainD at hx
    unfold RelD at r
    obtain ⟨a, vs, rfl, h1, h2⟩ := r
    cases y with
    | tup ds' =>
      unfold plainD at hy
      unfold RelD at q
      obtain ⟨a', vs', e, h3, h4⟩ := q
      cases e
      have h5 := sqT_mono sim h1; have h6 := sqT_mono sim h3
      rw [← hK] at h5 h6
      have := I.tuple_inj h5 h6
      subst this
      rw [relDs_inj hK o I sim hx hy h2 h4]
    | ins c ns ds' =>
      unfold RelD at q
      obtain ⟨a', dx, fs, e, h3, _⟩ := q
      cases e
      have h5 := sqT_mono sim h1
      rw [← hK] at h5
      exact (ins_no_tup I (sim _ _ h3) h5).elim
    | non => unfold RelD at q; cases q
    | bl _ => unfold RelD at q; cases q
    | int _ => unfold RelD at q; cases q
    | str _ => unfold RelD at q; cases q
    | _ => cases hy
  | .ins c ns ds, y, v, hx, hy, r, q => by
    unfold plainD at hx
    obtain ⟨hc, hx⟩ := He.ba hx
    unfold RelD at r
    obtain ⟨a, dx, fs, rfl, h1, h0, h2⟩ := r
    cases y with
    | ins c' ns' ds' =>
      unfold plainD at hy
      obtain ⟨hc', hy⟩ := He.ba hy
      unfold RelD at q
      obtain ⟨a', dx', fs', e, h3, h0', h4⟩ := q
      cases e
      rw [h1] at h3
      simp only [Option.some.injEq, HO.ins.injEq] at h3
      obtain ⟨ec, _, ef⟩ := h3
      subst ef
      rw [own_inj o (of_decide_eq_true hc) (of_decide_eq_true hc') ec, relDs_inj hK o I sim hx hy h2 h4, ← h0, ← h0']
    | tup ds' =>
      unfold RelD at q
      obtain ⟨a', vs', e, h3, h4⟩ := q
      cases e
      have h5 := sqT_mono sim h3
      rw [← hK] at h5
      exact (ins_no_tup I (sim _ _ h1) h5).elim
    | non => unfold RelD at q; cases q
    | bl _ => unfold RelD at q; cases q
    | int _ => unfold RelD at q; cases q
    | str _ => unfold RelD at q; cases q
    | _ => cases hy
  | .lst _, _, _, hx, _, _, _ => by cases hx
  | .dic _ _, _, _, hx, _, _, _ => by cases hx
  | .ref _, _, _, hx, _, _, _ => by cases hx
  | .cls _, _, _, hx, _, _, _ => by cases hx
  | .cst _, _, _, hx, _, _, _ => by cases hx
  | .ty _, _, _, hx, _, _, _ => by cases hx
  | .scr, _, _, hx, _, _, _ => by cases hx
theorem relDs_inj (hK : X.K = g.K) (o : OwnTy g cs) (I : Inv X pins σ H s) (sim : Same F H) : ∀ {x y : List D} {v : List V}, plainDs cs x = true → plainDs cs y = true → RelDs g F x v → RelDs g F y v → x = y
  | [], y, v, _, _, r, q => by
    cases r.nil_inv
    cases y with
    | nil => rfl
    | cons _ _ => obtain ⟨_, _, e, _⟩ := q.cons_inv; cases e
  | x :: xs, y, v, hx, hy, r, q => by
    obtain ⟨u, us, rfl, r1, r2⟩ := r.cons_inv
    cases y with
    | nil => cases q.nil_inv
    | cons y ys =>
      obtain ⟨_, _, e, q1, q2⟩ := q.cons_inv
      cases e
      unfold plainDs at hx hy
      obtain ⟨a1, a2⟩ := He.ba hx
      obtain ⟨b1, b2⟩ := He.ba hy
      rw [relD_inj hK o I sim a1 b1 r1 q1, relDs_inj hK o I sim a2 b2 r2 q2]
end
end
/-! ### tuples of own instances -/
def eq1M (cs : List Str) (c : Str) (m : Fn) (x y : D) : M Ex Bool := fun s Q E => isC s c x = some () ∧ tyAny cs s y = some () ∧ plainD cs x = true ∧ plainD cs y = true ∧ (x = y → Q true s) ∧ m [x, y] [] s (fun r s1 => asB r s1 Q E) E
theorem mono_eq1M {cs : List Str} {c : Str} {m : Fn} [MF m] (x y : D) : Mono (eq1M cs c m x y) := fun s Q Q' E E' hq he ⟨h1, h2, h3, h4, h5, h6⟩ => ⟨h1, h2, h3, h4, fun e => hq _ _ (h5 e), MF.mono _ _ _ _ _ _ _ (fun r s1 => mono_asB r s1 _ _ _ _ hq he) he h6⟩
def eqsM (cs : List Str) (c : Str) (m : Fn) : List D → List D → M Ex Bool
  | x :: xs, y :: ys => bindM (eq1M cs c m x y) fun k => if k = true then eqsM cs c m xs ys else pureM false
  | [], [] => pureM true
  | _, _ => pureM false
theorem mono_eqsM {cs : List Str} {c : Str} {m : Fn} [MF m] : ∀ (xs ys : List D), Mono (eqsM cs c m xs ys)
  | x :: xs, y :: ys => by unfold eqsM; exact mono_bind (mono_eq1M x y) fun k => mono_ite (mono_eqsM xs ys) (mono_pure _)
  | [], [] => by unfold eqsM; exact mono_pure _
  | [], _ :: _ => by unfold eqsM; exact mono_pure _
  | _ :: _, [] => by unfold eqsM; exact mono_pure _
def tupM (cs : List Str) (c : Str) (m : Fn) (neg : Bool) : PM := fun x y => match x, y with
  | .tup xs, .tup ys => bindM (eqsM cs c m xs ys) fun k => pureM (.bl (k ^^ neg))
  | _, _ => failM
instance {cs : List Str} {c : Str} {m : Fn} {neg : Bool} [MF m] : MP (tupM cs c m neg) := ⟨fun x y => by
  unfold tupM
  split
  · exact mono_bind (mono_eqsM _ _) fun _ => mono_pure _
  · exact mono_fail⟩
section
variable {cs : List Str} {c : Str} {f : Addr} {k : Nat} {m : Fn}
theorem rc_own [Kd] {A : Around} {pins : List (Addr × Obj)} {s : Shared} {Q : VK} {x y : V} {v u : Value} {dx dy : D} {R : Bool → S → Prop} (hK : X.K = g.K) (o : OwnTy g cs) (q : EqC g cs c f) (C : Cal g X.prog X.w X.K X.mg X.base k f [] m) (hM : MonoF m) (hr : Room k A) (ev : Env0 X.prog X.w X.K X.mg X.base A X.stack s H) (I : Inv X pins σ H s) (sim : Sim g Z st F H) (hx : RelD g F dx x) (hy : RelD g F dy y) (rx : RelV x v) (ry : RelV y u)
    (h1 : isC st c dx = some ()) (h2 : tyAny cs st dy = some ())
    (h3 : m [dx, dy] [] st (fun r s1 => asB r s1 (fun k s2 => R k s2) (fun _ _ => False)) (fun _ _ => False)) (h : ∀ k s1 F' H', R k s1 → Same F F' → Sim g Z s1 F' H' → Q (.bl k) H') :
    wpAny (model X.prog X.w) A (richCompare .Eq v u) (fun v s' => ∃ k H', v = .bool k ∧ Inv X pins σ H' s' ∧ Q (.bl k) H') X.xe s := by
  obtain ⟨a, dd, fs, rfl, ha⟩ := isC_ok sim hx h1
  cases (show v = Value.ref a from rx)
  obtain ⟨mA, O, rr, _⟩ := ins_get I.hok ha
  obtain ⟨od, J, _⟩ := O.look
  obtain ⟨t, ty, hn⟩ := tyAny_ok o q sim hy h2
  rw [← hK] at ty hn
  obtain ⟨P, Z2, p, _⟩ := kit_of I ry ty
  obtain ⟨fm, hF⟩ := I.fr
  refine PySem.W.cmp_K (op := .Eq) (tb := t) hr.units0 hF I.ok.mod.kin J (Z2.ty _ _ I.kIn p) hn (by rw [hK]; exact q.eq) (by rw [hK]; exact q.fn) ?_
  refine wpAny_mono (run_own (Q := Q) C hM hr ev I sim hx hy ry h3 h) (fun v s' ⟨k, H', e, I', z⟩ => ?_) fun _ _ x => x
  subst e
  exact ⟨k, H', rfl, I', z⟩
theorem eqB_own [Kd] {A : Around} {pins : List (Addr × Obj)} {s : Shared} {Q : VK} {x y : V} {v u : Value} {dx dy : D} {R : Bool → S → Prop} (hK : X.K = g.K) (o : OwnTy g cs) (q : EqC g cs c f) (C : Cal g X.prog X.w X.K X.mg X.base k f [] m) (hM : MonoF m) (hr : Room k A) (ev : Env0 X.prog X.w X.K X.mg X.base A X.stack s H) (I : Inv X pins σ H s) (sim : Sim g Z st F H) (hx : RelD g F dx x) (hy : RelD g F dy y) (rx : RelV x v) (ry : RelV y u)
    (h0 : eq1M cs c m dx dy st R (fun _ _ => False)) (h : ∀ k s1 F' H', R k s1 → Same F F' → Sim g Z s1 F' H' → Q (.bl k) H') :
    wpAny (model X.prog X.w) A (eqBool v u) (fun k s' => ∃ H', Inv X pins σ H' s' ∧ Q (.bl k) H') X.xe s := by
  obtain ⟨h1, h2, h3, h4, h5, h6⟩ := h0
  obtain ⟨a, dd, fs, ex, ha⟩ := isC_ok sim hx h1
  have ev2 : v = Value.ref a := by subst ex; exact rx
  subst ev2
  unfold eqBool
  refine wpAny_holding ?_
  refine wpAny_ite_split (fun hab => ?_) (fun _ => ?_)
  · have e : Value.ref a = u := eq_of_beq hab
    subst e
    have e2 : x = y := RelV.inj rx ry
    subst e2
    have e3 := relD_inj hK o I sim.same h3 h4 hx hy
    refine wpAny_bind (wpAny_rule (wpAny_pure ?_))
    exact ⟨H, I, h true st F H (h5 e3) (Same.refl _) sim⟩
  · refine wpAny_bind (wpAny_mono (rc_own (Q := Q) hK o q C hM hr ev I sim hx hy rx ry h1 h2 h6 h) (fun v s' hv => ?_) fun _ _ x => x)
    obtain ⟨r, H', rfl, I', z⟩ := hv
    exact wpAny_truthy_bool ⟨H', I', z⟩
theorem getElem_vals : ∀ {vs : List V} {us : List Value} (j : Nat) (h : j < us.length), Vals vs us → ∃ v, vs[j]? = some v ∧ RelV v us[j]
  | _, _, j, h, .nil => by cases h
  | _, _, 0, h, .cons a r => ⟨_, rfl, a⟩
  | _, _, j + 1, h, .cons a r => by
    obtain ⟨v, e, q⟩ := getElem_vals j (Nat.lt_of_succ_lt_succ h) r
    exact ⟨v, by simpa using e, q⟩
theorem drop_rel {ds : List D} {vs : List V} {j : Nat} {v : V} (r : RelDs g F ds vs) (h : vs[j]? = some v) : ∃ d, ds.drop j = d :: ds.drop (j + 1) ∧ RelD g F d v := by
  have r2 := (relDs_take j r).2
  obtain ⟨hj, e⟩ := List.getElem?_eq_some_iff.mp h
  rw [List.drop_eq_getElem_cons hj] at r2
  cases q : ds.drop j with
  | nil => rw [q] at r2; cases r2.nil_inv
  | cons d t =>
    rw [q] at r2
    obtain ⟨_, _, e2, h1, h2⟩ := r2.cons_inv
    cases e2
    rw [e] at h1
    refine ⟨d, ?_, h1⟩
    have : ds.drop (j + 1) = (ds.drop j).drop 1 := by rw [List.drop_drop]
    rw [this, q]; rfl
/-- the items, one behind another -/
theorem eqs_turn [Kd] {A : Around} {pins : List (Addr × Obj)} {Q : Bool → Hp → Prop} {xs ys : List D} {vx vy : List V} {us ws : List Value} {F0 : Hp} (hK : X.K = g.K) (o : OwnTy g cs) (q : EqC g cs c f) (C : Cal g X.prog X.w X.K X.mg X.base k f [] m) [MF m] (hr : Room k A) (hA : ∀ {s H}, Inv X pins σ H s → Env0 X.prog X.w X.K X.mg X.base A X.stack s H)
    (rx : RelDs g F0 xs vx) (ry : RelDs g F0 ys vy) (wx : Vals vx us) (wy : Vals vy ws) {P : Bool → Shared → Prop} (hP : ∀ s H k, Inv X pins σ H s → Q k H → P k s)
    (J : Nat → Shared → Prop) (eJ : J = fun j s => ∃ H F st, Inv X pins σ H s ∧ Sim g Z st F H ∧ Same F0 F ∧ eqsM cs c m (xs.drop j) (ys.drop j) st (fun k s1 => ∀ F' H', Same F F' → Sim g Z s1 F' H' → Q k H') (fun _ _ => False))
    (j : Nat) (s : Shared) (h1 : j < us.length) (h2 : j < ws.length) (h : J j s) : wpAny (model X.prog X.w) A (eqBool us[j] ws[j]) (fun k s' => if k = true then J (j + 1) s' else P false s') X.xe s := by
  subst eJ
  obtain ⟨H, F, st, I, sim, sm, h⟩ := h
  obtain ⟨v, ev, rv⟩ := getElem_vals j h1 wx
  obtain ⟨u, eu, ru⟩ := getElem_vals j h2 wy
  obtain ⟨dx, ex, hx⟩ := drop_rel rx ev
  obtain ⟨dy, ey, hy⟩ := drop_rel ry eu
  rw [ex, ey] at h
  unfold eqsM at h
  refine wpAny_mono (eqB_own (R := fun k s1 => (if k = true then eqsM cs c m (xs.drop (j + 1)) (ys.drop (j + 1)) else pureM false) s1 (fun k s1 => ∀ F' H', Same F F' → Sim g Z s1 F' H' → Q k H') (fun _ _ => False))
    (Q := fun v H' => ∃ k, v = .bl k ∧ if k = true then ∃ F' st', Sim g Z st' F' H' ∧ Same F0 F' ∧ eqsM cs c m (xs.drop (j + 1)) (ys.drop (j + 1)) st' (fun k s1 => ∀ F'' H', Same F' F'' → Sim g Z s1 F'' H' → Q k H') (fun _ _ => False) else Q false H')
    hK o q C MF.mono hr (hA I) I sim (hx.mono sm) (hy.mono sm) rv ru h fun k s1 F' H' z e sim' => ⟨k, rfl, ?_⟩) (fun k s' ⟨H', I', k', ek, z⟩ => ?_) fun _ _ x => x
  · cases k with
    | true =>
      rw [if_pos rfl] at z ⊢
      exact ⟨F', s1, sim', sm.trans e, mono_eqsM _ _ _ _ _ _ _ (fun _ _ z F'' H'' e2 => z F'' H'' (e.trans e2)) (fun _ _ z => z) z⟩
    | false =>
      rw [if_neg Bool.false_ne_true] at z ⊢
      exact z F' H' e sim'
  · cases ek
    cases k with
    | true =>
      rw [if_pos rfl] at z ⊢
      obtain ⟨F', st', sim', sm', z⟩ := z
      exact ⟨H', F', st', I', sim', sm', z⟩
    | false =>
      rw [if_neg Bool.false_ne_true] at z ⊢
      exact hP s' H' false I' z
theorem eqsM_end {xs ys : List D} {Q : Bool → S → Prop} {E : Ex → S → Prop} (h : eqsM cs c m (xs.drop (min xs.length ys.length)) (ys.drop (min xs.length ys.length)) st Q E) : Q (xs.length == ys.length) st := by
  rcases Nat.lt_trichotomy xs.length ys.length with l | l | l
  · rw [Nat.min_eq_left (Nat.le_of_lt l), List.drop_of_length_le (Nat.le_refl _), List.drop_eq_getElem_cons l] at h
    have : (xs.length == ys.length) = false := beq_eq_false_iff_ne.mpr (Nat.ne_of_lt l)
    rw [this]; exact h
  · rw [← l, Nat.min_self, List.drop_of_length_le (Nat.le_refl _), List.drop_of_length_le (Nat.le_of_eq l.symm)] at h
    rw [l, beq_self_eq_true]; exact h
  · rw [Nat.min_eq_right (Nat.le_of_lt l), List.drop_of_length_le (Nat.le_refl ys.length), List.drop_eq_getElem_cons l] at h
    have : (xs.length == ys.length) = false := beq_eq_false_iff_ne.mpr (Nat.ne_of_gt l)
    rw [this]; exact h
theorem od_tup [Kd] (hK : X.K = g.K) (o : OwnTy g cs) (q : EqC g cs c f) (C : Cal g X.prog X.w X.K X.mg X.base k f [] m) [MF m] (hr : Room (k + 1) X.A) : OpR X (compareOp .Eq) (rM g (tupM cs c m false)) := by
  intro pins s σ H x y v u Q I rx ry ⟨Z, F, st, dx, dy, sim, hx, hy, h⟩
  unfold tupM at h
  split at h
  · rename_i xs ys
    unfold RelD at hx hy
    obtain ⟨a, vx, rfl, sx, hx⟩ := hx
    obtain ⟨b, vy, rfl, sy, hy⟩ := hy
    cases (show v = Value.ref a from rx)
    cases (show u = Value.ref b from ry)
    have sx2 := sqT_mono sim.same sx; have sy2 := sqT_mono sim.same sy
    rw [← hK] at sx2 sy2
    obtain ⟨us, wx, ⟨⟨cls, dd, data, sl⟩, ho, hc, n, hd⟩, _⟩ := I.tuple sx2
    obtain ⟨ws, wy, ⟨⟨cls2, dd2, data2, sl2⟩, ho2, hc2, n2, hd2⟩, _⟩ := I.tuple sy2
    simp only at hc hd hc2 hd2
    subst hc hd hc2 hd2
    have lx : us.length = xs.length := wx.length.symm.trans hx.len
    have ly : ws.length = ys.length := wy.length.symm.trans hy.len
    show wpAny _ _ (richCompare .Eq (.ref a) (.ref b)) _ _ _
    refine wpAny_richCompare_same_room (op := .Eq) ⟨_, ho, rfl⟩ ⟨_, ho2, rfl⟩ PySem.F.slot_tuple_eq (GQ.call_here PySem.F.slot_tuple_eq ⟨_, ho, rfl⟩ PySem.F.entry_tuple_eq (PySem.F.args_tuple_eq_2 _ _) ?_) hr.units0
    let Q2 : Bool → Hp → Prop := fun k H' => Q (.bl (k ^^ false)) H'
    refine tuple_eqW a b us.toArray ws.toArray n n2 dd dd2 sl sl2 (fun j s => ∃ H F', ∃ st, Inv X pins σ H s ∧ Sim g Z st F' H ∧ Same F F' ∧ eqsM cs c m (xs.drop j) (ys.drop j) st (fun k s1 => ∀ F'' H', Same F' F'' → Sim g Z s1 F'' H' → Q2 k H') (fun _ _ => False)) X.A _ s ⟨ho, ho2, ?_, fun j s' h1 h2 hj => ?_, fun s' hj => ?_⟩
    · exact ⟨H, F, st, I, sim, Same.refl _, mono_eqsM _ _ _ _ _ _ _ (fun k s1 z F' H' e sim' => z _ F' H' e sim' relD_bl) (fun _ _ z => z) h⟩
    · have h1' : j < us.length := by simpa using h1
      have h2' : j < ws.length := by simpa using h2
      have z := eqs_turn (Q := Q2) (A := X.A.in1) hK o q C hr.in1 (fun I => I.env0.in1) hx hy wx wy (P := fun k s' => EP X pins σ Q (.bool (k ^^ false)) s') (fun s H k I z => ⟨.bl (k ^^ false), H, I, rfl, z⟩) _ rfl j s' h1' h2' hj
      refine wpAny_mono z (fun k s2 z => ?_) fun _ _ x => x
      cases k with
      | true => rw [if_pos rfl] at z ⊢; exact z
      | false => rw [if_neg Bool.false_ne_true] at z ⊢; exact ⟨(fun x => nomatch x), z⟩
    · obtain ⟨H, F', st, I, sim', sm, z⟩ := hj
      have lz : min us.toArray.size ws.toArray.size = min xs.length ys.length := by simp [lx, ly]
      rw [lz] at z
      have z2 := eqsM_end z F' H (Same.refl _) sim'
      refine ⟨(fun x => nomatch x), .bl ((us.toArray.size == ws.toArray.size)), H, I, rfl, ?_⟩
      have e : (us.toArray.size == ws.toArray.size) = (xs.length == ys.length) := by simp [lx, ly]
      rw [e]
      simpa [Q2] using z2
  · exact h.elim
theorem od_tupN [Kd] (hK : X.K = g.K) (o : OwnTy g cs) (q : EqC g cs c f) (C : Cal g X.prog X.w X.K X.mg X.base k f [] m) [MF m] (hr : Room (k + 1) X.A) : OpR X (compareOp .NotEq) (rM g (tupM cs c m true)) := by
  intro pins s σ H x y v u Q I rx ry ⟨Z, F, st, dx, dy, sim, hx, hy, h⟩
  unfold tupM at h
  split at h
  · rename_i xs ys
    unfold RelD at hx hy
    obtain ⟨a, vx, rfl, sx, hx⟩ := hx
    obtain ⟨b, vy, rfl, sy, hy⟩ := hy
    cases (show v = Value.ref a from rx)
    cases (show u = Value.ref b from ry)
    have sx2 := sqT_mono sim.same sx; have sy2 := sqT_mono sim.same sy
    rw [← hK] at sx2 sy2
    obtain ⟨us, wx, ⟨⟨cls, dd, data, sl⟩, ho, hc, n, hd⟩, _⟩ := I.tuple sx2
    obtain ⟨ws, wy, ⟨⟨cls2, dd2, data2, sl2⟩, ho2, hc2, n2, hd2⟩, _⟩ := I.tuple sy2
    simp only at hc hd hc2 hd2
    subst hc hd hc2 hd2
    have lx : us.length = xs.length := wx.length.symm.trans hx.len
    have ly : ws.length = ys.length := wy.length.symm.trans hy.len
    show wpAny _ _ (richCompare .NotEq (.ref a) (.ref b)) _ _ _
    refine wpAny_richCompare_same_room (op := .NotEq) ⟨_, ho, rfl⟩ ⟨_, ho2, rfl⟩ PySem.F.slot_tuple_ne (GQ.call_here PySem.F.slot_tuple_ne ⟨_, ho, rfl⟩ PySem.F.entry_tuple_ne (PySem.F.args_tuple_ne_2 _ _) ?_) hr.units0
    let Q2 : Bool → Hp → Prop := fun k H' => Q (.bl (k ^^ true)) H'
    refine tuple_neW a b us.toArray ws.toArray n n2 dd dd2 sl sl2 (fun j s => ∃ H F', ∃ st, Inv X pins σ H s ∧ Sim g Z st F' H ∧ Same F F' ∧ eqsM cs c m (xs.drop j) (ys.drop j) st (fun k s1 => ∀ F'' H', Same F' F'' → Sim g Z s1 F'' H' → Q2 k H') (fun _ _ => False)) X.A _ s ⟨ho, ho2, ?_, fun j s' h1 h2 hj => ?_, fun s' hj => ?_⟩
    · exact ⟨H, F, st, I, sim, Same.refl _, mono_eqsM _ _ _ _ _ _ _ (fun k s1 z F' H' e sim' => z _ F' H' e sim' relD_bl) (fun _ _ z => z) h⟩
    · have h1' : j < us.length := by simpa using h1
      have h2' : j < ws.length := by simpa using h2
      have z := eqs_turn (Q := Q2) (A := X.A.in1) hK o q C hr.in1 (fun I => I.env0.in1) hx hy wx wy (P := fun k s' => EP X pins σ Q (.bool (k ^^ true)) s') (fun s H k I z => ⟨.bl (k ^^ true), H, I, rfl, z⟩) _ rfl j s' h1' h2' hj
      refine wpAny_mono z (fun k s2 z => ?_) fun _ _ x => x
      cases k with
      | true => rw [if_pos rfl] at z ⊢; exact z
      | false => rw [if_neg Bool.false_ne_true] at z ⊢; exact ⟨(fun x => nomatch x), z⟩
    · obtain ⟨H, F', st, I, sim', sm, z⟩ := hj
      have lz : min us.toArray.size ws.toArray.size = min xs.length ys.length := by simp [lx, ly]
      rw [lz] at z
      have z2 := eqsM_end z F' H (Same.refl _) sim'
      refine ⟨(fun x => nomatch x), .bl (!(us.toArray.size == ws.toArray.size)), H, I, rfl, ?_⟩
      have e : (us.toArray.size == ws.toArray.size) = (xs.length == ys.length) := by simp [lx, ly]
      rw [e]
      simpa [Q2] using z2
  · exact h.elim
end
end DL
namespace DL
open PySem L2
/-- the facts of an own == -/
def eqcB (cs : List Str) (c : Str) (K : PySem.W.Frag) : Bool := decide (PySem.W.findIn K (.ref (He.ga K c)) "__eq__" = some (some (.ref (He.ma K (He.ga K c) "__eq__")))) && (PySem.W.isFn K (.ref (He.ma K (He.ga K c) "__eq__")) &&
  (decide (PySem.W.findIn K (.ref (He.ga K c)) "__ne__" = some (some (.builtin "object.__ne__"))) && (decide (PySem.W.mroIn K (He.ga K c) (.type "object") = some true) && ((baseTys.all fun t => PySem.W.notFirst K (He.ga K c) (.type t)) && cs.all fun c' => PySem.W.notFirst K (He.ga K c) (.ref (He.ga K c'))))))
theorem eqcB_ok {cs : List Str} {c : Str} {K : PySem.W.Frag} (hc : c ∈ cs) (h : eqcB cs c K = true) : EqC (gK K) cs c (He.ma K (He.ga K c) "__eq__") := by
  obtain ⟨h1, h⟩ := He.ba h
  obtain ⟨h2, h⟩ := He.ba h
  obtain ⟨h3, h⟩ := He.ba h
  obtain ⟨h4, h⟩ := He.ba h
  obtain ⟨h5, h6⟩ := He.ba h
  exact ⟨hc, of_decide_eq_true h1, h2, of_decide_eq_true h3, of_decide_eq_true h4, List.all_eq_true.mp h5, List.all_eq_true.mp h6⟩
def cmFB (K : PySem.W.Frag) (c m : Str) : Bool := match PySem.W.findCls K (.ref (He.ga K c)) (.type "type") m with
  | some (.get (.builtin b) (.ref p) .none (.ref C)) => decide (b = "classmethod.__get__") && (decide (p = He.ma K (He.ga K c) m) && decide (C = He.ga K c))
  | _ => false
theorem cmFB_ok {K : PySem.W.Frag} {c m : Str} (h : cmFB K c m = true) : PySem.W.findCls K (.ref (He.ga K c)) (.type "type") m = some (.get (.builtin "classmethod.__get__") (.ref (He.ma K (He.ga K c) m)) .none (.ref (He.ga K c))) := by
  unfold cmFB at h
  split at h
  · rename_i b p C e
    obtain ⟨h1, h⟩ := He.ba h
    obtain ⟨h2, h3⟩ := He.ba h
    rw [e, of_decide_eq_true h1, of_decide_eq_true h2, of_decide_eq_true h3]
  · cases h
theorem noattr_of {K : PySem.W.Frag} {c : Addr} {f : Str} (h : decide (PySem.W.findIn K (.ref c) f = some none) = true) : NoAttr K c f := by
  unfold NoAttr
  exact of_decide_eq_true h
end DL

/-! ### running mirrors: places that change -/
namespace DL
open PySem L2
section
variable {ρ : Env} {s : S} {E : Ex → S → Prop} {EE : Ex × Env → S → Prop} {Q : D → S → Prop} {QU : Unit → S → Prop} {QF : Fl → S → Prop} {a b : Addr} {c f : Str} {fs : List (Str × D)} {v d y : D} {xs ds es : List D} {o : Ob} {kvs : List (Key × D)}
theorem map_set : (s.set a o).map a = some o := S.set_same
theorem map_ne (h : b ≠ a) : (s.set a o).map b = s.map b := S.set_ne h
theorem ne_of_map {o' : Ob} (h : s.map b = some o') (k : s.map a = none) : b ≠ a := by rintro rfl; rw [k] at h; cases h
theorem map_keep {o' : Ob} (h : s.map b = some o') (k : s.map a = none) : (s.set a o).map b = some o' := by rw [S.set_ne (ne_of_map h k)]; exact h
theorem set_set {o' : Ob} : (s.set a o).set a o' = s.set a o' := S.set_set
theorem x_atLf {F : D → S → List D → Option (List D)} (h : s.map a = some (.lst xs)) : atLf F (.ref a) y s Q E = ∃ ys, F y s xs = some ys ∧ Q .non (s.set a (.lst ys)) := by
  refine propext ⟨fun ⟨a', xs', ys, e, h1, h2, h3⟩ => ?_, fun ⟨ys, h2, h3⟩ => ⟨a, xs, ys, rfl, h, h2, h3⟩⟩
  cases e
  rw [h] at h1
  cases h1
  exact ⟨ys, h2, h3⟩
theorem x_atLfS {F : D → S → List D → Option (List D)} : atLf F (.ref a) y (s.set a (.lst xs)) Q E = ∃ ys, F y (s.set a (.lst xs)) xs = some ys ∧ Q .non (s.set a (.lst ys)) := by
  rw [x_atLf S.set_same]; simp only [S.set_set]
theorem isL_set : isL (.ref a) (s.set a (.lst xs)) = some () := by
  show (obL ((s.set a (.lst xs)).map a)).map _ = _
  rw [S.set_same]; rfl
theorem isL_at (h : s.map a = some (.lst xs)) : isL (.ref a) s = some () := by
  show (obL (s.map a)).map _ = _
  rw [h]; rfl
theorem appF_ok (h : xs.length < sizeLine) : appF y s xs = some (xs ++ [y]) := if_pos h
theorem extF_ok {zs : List D} (h : xs.length + zs.length ≤ sizeLine) : extF (.lst zs) s xs = some (xs ++ zs) := if_pos h
theorem lstOf_set : lstOf (s.set a (.lst xs)) (.ref a) = some xs := by
  show obL ((s.set a (.lst xs)).map a) = _
  rw [S.set_same]; rfl
theorem lstOf_at (h : s.map a = some (.lst xs)) : lstOf s (.ref a) = some xs := by
  show obL (s.map a) = _
  rw [h]; rfl
theorem seqD_at (h : s.map a = some (.lst xs)) : seqD s (.ref a) = some xs := by
  show obL (s.map a) = _
  rw [h]; rfl
theorem seqD_set : seqD (s.set a (.lst xs)) (.ref a) = some xs := seqD_at S.set_same
theorem dicOf_at (h : s.map a = some (.dic kvs)) : dicOf s (.ref a) = some kvs := by
  show obK (s.map a) = _
  rw [h]; rfl
theorem dicOf_set : dicOf (s.set a (.dic kvs)) (.ref a) = some kvs := dicOf_at S.set_same
theorem dicOf_dic {ks : List Key} {vs : List D} : dicOf s (.dic ks vs) = some (ks.zip vs) := rfl
theorem keyD_str {z : Str} : keyD (.str z) = some (.inr z) := rfl
theorem keyD_int {i : Int} : keyD (.int i) = some (.inl i) := rfl
theorem x_setKey {k : D} (h : s.map a = some (.dic kvs)) : setKey (.ref a) k v s QU EE = (∃ key, keyD k = some key ∧ kvs.length < sizeLine ∧ QU () (s.set a (.dic (putKD kvs key v)))) := by
  refine propext ⟨fun ⟨a', kvs', key, e, h1, h2, h3, h4⟩ => ?_, fun ⟨key, h2, h3, h4⟩ => ⟨a, kvs, key, rfl, h, h2, h3, h4⟩⟩
  cases e
  rw [h] at h1
  cases h1
  exact ⟨key, h2, h3, h4⟩
theorem x_setKeyS {k : D} : setKey (.ref a) k v (s.set a (.dic kvs)) QU EE = (∃ key, keyD k = some key ∧ kvs.length < sizeLine ∧ QU () (s.set a (.dic (putKD kvs key v)))) := by
  rw [x_setKey S.set_same]; simp only [S.set_set]
theorem x_newL : outN ds s Q E = ∀ a, s.map a = none → Q (.ref a) (s.set a (.lst ds)) := rfl
theorem srcP_set : srcP (.ref a) xs (s.set a (.lst xs)) := by
  show obL ((s.set a (.lst xs)).map a) = some xs
  rw [S.set_same]; rfl
theorem lt_sz {n : Nat} (h : n < 100000) : n < sizeLine := Nat.lt_of_lt_of_le h (by decide)
theorem le_sz {n : Nat} (h : n ≤ 100000) : n ≤ sizeLine := Nat.le_trans h (by decide)
theorem freezeE_lst (hs : s.map a = none) : (freeze (.ref a) : M (Ex × Env) D) (s.set a (.lst xs)) Q EE = Q (.lst xs) s := by
  refine propext ⟨fun ⟨a', o, x, e, h1, h2, h3⟩ => ?_, fun h => ⟨a, _, _, rfl, S.set_same, rfl, by rw [S.del_set hs]; exact h⟩⟩
  cases e
  rw [S.set_same] at h1
  cases h1
  cases h2
  rw [S.del_set hs] at h3
  exact h3
theorem freezeE_dic (hs : s.map a = none) : (freeze (.ref a) : M (Ex × Env) D) (s.set a (.dic kvs)) Q EE = Q (.dic (kvs.map (·.1)) (kvs.map (·.2))) s := by
  refine propext ⟨fun ⟨a', o, x, e, h1, h2, h3⟩ => ?_, fun h => ⟨a, _, _, rfl, S.set_same, rfl, by rw [S.del_set hs]; exact h⟩⟩
  cases e
  rw [S.set_same] at h1
  cases h1
  cases h2
  rw [S.del_set hs] at h3
  exact h3
/-- a statement and what follows, where ways join -/
def seqC (p r : Env → MS) : Env → MS := seqS p r
theorem fb_consC {g : G} {X : Cx} {W : WX} {st : Stmt} {r : List Stmt} {p q : Env → MS} (h : FS g X W st p) (k : FB g X W r q) : FB g X W (st :: r) (seqC p q) := fb_cons h k
instance {p r : Env → MS} [MB p] [MB r] : MB (seqC p r) := ⟨mono_seqS MB.mono MB.mono⟩
theorem x_seqC {p r : Env → MS} : seqC p r ρ s QF EE = p ρ s (fun f s' => thenF r f s' QF EE) EE := rfl
theorem cutC {p r : Env → MS} [MB p] (I : Env → S → Prop) (h1 : p ρ s (fun f s' => thenF (fun ρ' s'' _ _ => I ρ' s'') f s' QF EE) EE) (h2 : ∀ ρ' s', I ρ' s' → r ρ' s' QF EE) : seqC p r ρ s QF EE := seq_cut I h1 h2
/-- a comprehension whose parts change nothing -/
theorem lc_filt {α : Type} {P : S → Prop} {f : D → Env → Option Env} {t : Env → M Ex Bool} {m : Env → M Ex D} [MB t] [MB m] {QL : List D → S → Prop} (el g : α → D) (kk : α → Bool) : ∀ (xs : List α) (acc : List D), P s → (∀ x ∈ xs, ∃ ρ1, f (el x) ρ = some ρ1 ∧ t ρ1 s (fun k s1 => k = kk x ∧ s1 = s) (fun _ _ => False) ∧ (kk x = true → m ρ1 s (fun y s1 => y = g x ∧ s1 = s) (fun _ _ => False))) →
    QL (acc ++ (xs.filter kk).map g) s → lcLoop P f t m ρ (xs.map el) acc s QL E
  | [], acc, hP, _, q => ⟨hP, by simpa using q⟩
  | x :: xs, acc, hP, h, q => by
    obtain ⟨ρ1, h1, h2, h3⟩ := h x List.mem_cons_self
    rw [List.map_cons, x_lc_cons]
    refine ⟨hP, ρ1, h1, MB.mono ρ1 _ _ _ _ _ (fun k s1 z => ?_) (fun _ _ z => z) h2⟩
    obtain ⟨z1, z2⟩ := z
    rw [z1, z2]
    cases e : kk x with
    | true =>
      rw [selB_t]
      refine MB.mono ρ1 _ _ _ _ _ (fun y s1 z => ?_) (fun _ _ z => z) (h3 e)
      obtain ⟨z1, z2⟩ := z
      rw [z1, z2]
      refine lc_filt el g kk xs _ hP (fun y hy => h y (List.mem_cons_of_mem _ hy)) ?_
      rw [List.filter_cons, e] at q
      simpa using q
    | false =>
      rw [selB_f]
      refine lc_filt el g kk xs _ hP (fun y hy => h y (List.mem_cons_of_mem _ hy)) ?_
      rw [List.filter_cons, e] at q
      simpa using q
theorem lc_pure {α : Type} {P : S → Prop} {f : D → Env → Option Env} {m : Env → M Ex D} [MB m] {QL : List D → S → Prop} (el g : α → D) (xs : List α) (acc : List D) (hP : P s) (h : ∀ x ∈ xs, ∃ ρ1, f (el x) ρ = some ρ1 ∧ m ρ1 s (fun y s1 => y = g x ∧ s1 = s) (fun _ _ => False))
    (q : QL (acc ++ xs.map g) s) : lcLoop P f yesT m ρ (xs.map el) acc s QL E :=
  lc_filt el g (fun _ => true) xs acc hP (fun x hx => let ⟨ρ1, h1, h2⟩ := h x hx; ⟨ρ1, h1, ⟨rfl, rfl⟩, fun _ => h2⟩) (by rw [List.filter_eq_self.mpr (fun _ _ => rfl)]; exact q)
theorem ints_succ {lo : Int} {n : Nat} : intsD lo (n + 1) = .int lo :: intsD (lo + 1) n := by
  unfold intsD
  rw [List.range_succ_eq_map, List.map_cons, List.map_map]
  congr 1
  · simp
  · refine List.map_congr_left fun i _ => ?_
    simp only [Function.comp]
    congr 1
    omega
theorem ints_zero {lo : Int} : intsD lo 0 = [] := rfl
end
/-! ### local lists and dicts are let go -/
section
variable {g : G} {Z F H : Hp} {W : WX} {σ : St} {ρ : Env} {st : S} {X : Cx} {e : Expr} {pos : Pos}
theorem Sim.forget {p : Addr} {ob : Ob} (s : Sim g Z st F H) (e : st.map p = some ob) (nb : ob ≠ .raw) : Sim g Z (st.del p) F H := by
  refine ⟨s.same, fun a u q => ?_, fun a u q => ?_⟩
  · have z : a ≠ p := by rintro rfl; rw [S.del_same] at q; cases q
    rw [S.del_ne z] at q
    obtain ⟨f1, r1⟩ := s.ob a u q
    refine ⟨f1, r1.move (Same.refl _) rfl fun c m => ?_⟩
    rw [S.del_ne (by rintro rfl; rw [e] at m; exact nb (Option.some.inj m))]; exact m
  · obtain ⟨f1, m, h1⟩ := s.pin a u q
    have hc : a ≠ p := by rintro rfl; rw [e] at m; cases m
    exact ⟨f1, by rw [S.del_ne hc]; exact m, h1⟩
def dropO (o : Option (Option D)) (s : S) : S := match o with
  | some (some (.ref a)) => match s.map a with
    | some (.lst _) => s.del a
    | some (.dic _) => s.del a
    | some (.ins _ _) => s.del a
    | _ => s
  | _ => s
theorem Sim.dropO {o : Option (Option D)} (s : Sim g Z st F H) : Sim g Z (DL.dropO o st) F H := by
  unfold DL.dropO
  split
  · split
    · rename_i h; exact s.forget h (by simp)
    · rename_i h; exact s.forget h (by simp)
    · rename_i h; exact s.forget h (by simp)
    · exact s
  · exact s
def dropAll (ρ : Env) : List Nat → S → S
  | [], s => s
  | i :: is, s => dropAll ρ is (dropO ρ[i]? s)
theorem Sim.dropAll : ∀ {is : List Nat} {st : S}, Sim g Z st F H → Sim g Z (DL.dropAll ρ is st) F H
  | [], _, s => s
  | i :: is, st, s => Sim.dropAll (is := is) (Sim.dropO (o := ρ[i]?) s)
def outD (ρ : Env) (is : List Nat) (d : D) : MS := fun s Q _ => Q (.rt d) (dropAll ρ is s)
theorem mono_outD {is : List Nat} {d : D} : Mono (outD ρ is d) := fun _ _ _ _ _ hq _ z => hq _ _ z
def retD (is : List Nat) (m : Env → M Ex D) : Env → MS := fun ρ => bindM (up ρ (m ρ)) (outD ρ is)
theorem fs_retD {is : List Nat} {m : Env → M Ex D} (h : FE g X W e m) : FS g X W (.Return (some e) pos) (retD is m) :=
  ⟨PS.imp (ps_ret h.pe) fun D σ H ⟨Z, F, st, ρ, E, N, q⟩ => tS.go (k := outD ρ is) N (h.mono ρ) (fun _ => mono_outD) q fun d v F st H1 e N r q => q v F H1 (Same.refl _) N.sim.dropAll r,
   fun ρ => mono_bind (mono_up (h.mono ρ)) fun _ => mono_outD⟩
instance {is : List Nat} {m : Env → M Ex D} [MB m] : MB (retD is m) := ⟨fun ρ => mono_bind (mono_up (MB.mono ρ)) fun _ => mono_outD⟩
variable {s : S} {QF : Fl → S → Prop} {EE : Ex × Env → S → Prop} {a : Addr}
theorem x_retD {is : List Nat} {m : Env → M Ex D} : retD is m ρ s QF EE = m ρ s (fun d s' => QF (.rt d) (dropAll ρ is s')) (fun x s' => EE (x, ρ) s') := rfl
theorem drop_nil : dropAll ρ [] s = s := rfl
theorem drop_cons {i : Nat} {is : List Nat} : dropAll ρ (i :: is) s = dropAll ρ is (dropO ρ[i]? s) := rfl
theorem drop_lst (h : s.map a = none) {xs : List D} : dropO (some (some (.ref a))) (s.set a (.lst xs)) = s := by
  unfold dropO
  simp only [S.set_same]
  exact S.del_set h
theorem drop_dic (h : s.map a = none) {xs : List (Key × D)} : dropO (some (some (.ref a))) (s.set a (.dic xs)) = s := by
  unfold dropO
  simp only [S.set_same]
  exact S.del_set h
end
end DL

namespace DL
def runs_D19 := And.intro @map_set (And.intro @set_set (And.intro @x_atLfS (And.intro @isL_set (And.intro @lstOf_set (And.intro @seqD_set (And.intro @dicOf_set (And.intro @dicOf_dic (And.intro @keyD_str (And.intro @keyD_int (And.intro @x_setKeyS (And.intro @x_newL (And.intro @x_retD (And.intro @drop_nil (@drop_cons))))))))))))))
end DL
/-! ### dict displays, dict(d), isinstance of several classes -/
namespace DL
open PySem L2
section
variable {g : G} {Z F F' H H' : Hp} {W : WX} {σ : St} {ρ : Env} {st : S} {X : Cx} {e e1 e2 : Expr} {pos p : Pos} {es : List Expr} {x : Str}
def RelPs (g : G) (F : Hp) (ps : List (D × D)) (vs : List (V × V)) : Prop := RelDs g F (ps.map (·.1)) (vs.map (·.1)) ∧ RelDs g F (ps.map (·.2)) (vs.map (·.2))
def prsN : Env → M Ex (List (D × D)) := fun _ => pureM []
def prsC (k v : Env → M Ex D) (r : Env → M Ex (List (D × D))) : Env → M Ex (List (D × D)) := fun ρ => bindM (k ρ) fun x => bindM (v ρ) fun y => bindM (r ρ) fun ps => pureM ((x, y) :: ps)
structure FPs (g : G) (X : Cx) (W : WX) (pos : Pos) (keys : List (Option Expr)) (values : List Expr) (m : Env → M Ex (List (D × D))) : Prop where
  pps : ∃ trs, PPs X pos keys values trs ∧ ∀ σ H Q, tX g (RelPs g) W m σ H Q → tPairs trs σ H Q
  mono : ∀ ρ, Mono (m ρ)
theorem fps_nil : FPs g X W pos [] [] prsN := ⟨⟨[], pps_nil, fun σ H Q ⟨Z, F, st, ρ, E, N, q⟩ => tX.done (R := RelPs g) (d := []) (v := []) N ⟨.nil, .nil⟩ q⟩, fun _ => mono_pure _⟩
theorem fps_cons {ks : List (Option Expr)} {vs : List Expr} {a b : Env → M Ex D} {m : Env → M Ex (List (D × D))} (ha : FE g X W e1 a) (hb : FE g X W e2 b) (h : FPs g X W pos ks vs m) : FPs g X W pos (some e1 :: ks) (e2 :: vs) (prsC a b m) := by
  obtain ⟨⟨trs, h1, h2⟩, h3⟩ := h
  have m3 : ∀ ρ x y, Mono (bindM (m ρ) fun ps => (pureM ((x, y) :: ps) : M Ex (List (D × D)))) := fun ρ x y => mono_bind (h3 ρ) fun _ => mono_pure _
  have m2 : ∀ ρ x, Mono (bindM (b ρ) fun y => bindM (m ρ) fun ps => (pureM ((x, y) :: ps) : M Ex (List (D × D)))) := fun ρ x => mono_bind (hb.mono ρ) (m3 ρ x)
  refine ⟨⟨_, pps_cons ha.pe hb.pe h1, fun σ H Q ⟨Z, F, st, ρ, E, N, q⟩ => ?_⟩, fun ρ => mono_bind (ha.mono ρ) (m2 ρ)⟩
  refine tX.go N (ha.mono ρ) (m2 ρ) q fun d v F st H1 e N r q => ?_
  refine tX.go (R1 := RelD g) N (hb.mono ρ) (m3 ρ d) q fun d2 v2 F2 st2 H2 e2 N2 r2 q2 => ?_
  refine h2 _ _ _ ?_
  refine tX.go (R1 := RelPs g) N2 (h3 ρ) (fun _ => mono_pure _) q2 fun ds vs F3 st3 H3 e3 N3 r3 q3 => ?_
  exact tX.done (R := RelPs g) (d := (d, d2) :: ds) N3 ⟨.cons (r.mono (e2.trans e3)) r3.1, .cons (r2.mono e3) r3.2⟩ q3
def keysD : List (D × D) → Option (List (Key × D))
  | [] => some []
  | (k, v) :: r => (keyD k).bind fun key => (keysD r).map fun kvs => (key, v) :: kvs
theorem keysD_rel : ∀ {ps : List (D × D)} {vs : List (V × V)} {kds : List (Key × D)}, RelPs g F ps vs → keysD ps = some kds → ∃ kvs : List (Key × V), vs = kvs.map (fun kv => (kV kv.1, kv.2)) ∧ kvs.map (·.1) = kds.map (·.1) ∧ RelDs g F (kds.map (·.2)) (kvs.map (·.2))
  | [], vs, kds, r, h => by
    cases (Option.some.inj h)
    have := r.1.nil_inv
    have e : vs = [] := List.map_eq_nil_iff.mp this
    subst e
    exact ⟨[], rfl, rfl, .nil⟩
  | (k, v) :: ps, vs, kds, r, h => by
    obtain ⟨key, h1, h⟩ := Option.bind_eq_some_iff.mp (show ((keyD k).bind fun key => (keysD ps).map fun kvs => (key, v) :: kvs) = some kds from h)
    obtain ⟨kds', h2, rfl⟩ := Option.map_eq_some_iff.mp h
    obtain ⟨u, r1, e1, ru, rr⟩ := r.1.cons_inv
    obtain ⟨u2, r2, e2, ru2, rr2⟩ := r.2.cons_inv
    cases vs with
    | nil => cases e1
    | cons w vs =>
      obtain ⟨w1, w2⟩ := w
      obtain ⟨rfl, rfl⟩ := List.cons.inj e1
      obtain ⟨rfl, rfl⟩ := List.cons.inj e2
      obtain ⟨kvs, h3, h4, h5⟩ := keysD_rel (ps := ps) (vs := vs) ⟨rr, rr2⟩ h2
      have := keyD_rel h1 ru
      have this : w1 = kV key := this
      subst this
      exact ⟨(key, w2) :: kvs, by rw [List.map_cons, h3], by rw [List.map_cons, List.map_cons, h4], .cons ru2 h5⟩
def mergeKD (kvs more : List (Key × D)) : List (Key × D) := more.foldl (fun acc kv => putKD acc kv.1 kv.2) kvs
theorem mergeKD_rel : ∀ {more : List (Key × D)} {mv : List (Key × V)} {kds : List (Key × D)} {kvs : List (Key × V)}, mv.map (·.1) = more.map (·.1) → RelDs g F (more.map (·.2)) (mv.map (·.2)) → kvs.map (·.1) = kds.map (·.1) → RelDs g F (kds.map (·.2)) (kvs.map (·.2)) →
    (mergeK kvs mv).map (·.1) = (mergeKD kds more).map (·.1) ∧ RelDs g F ((mergeKD kds more).map (·.2)) ((mergeK kvs mv).map (·.2))
  | [], [], _, _, _, _, h, r => ⟨h, r⟩
  | [], _ :: _, _, _, h, _, _, _ => by cases h
  | _ :: _, [], _, _, h, _, _, _ => by cases h
  | (k, d) :: more, (k', v) :: mv, kds, kvs, h, r, h2, r2 => by
    obtain ⟨e1, e2⟩ := List.cons.inj h
    have e1 : k' = k := e1
    subst e1
    obtain ⟨u, rest, e3, ru, rr⟩ := r.cons_inv
    obtain ⟨rfl, rfl⟩ := List.cons.inj e3
    obtain ⟨h3, r3⟩ := putKD_rel (k := k') ru h2 r2
    exact mergeKD_rel (more := more) (mv := mv) e2 rr h3 r3
theorem put_new' {kvs : List (Key × D)} {k : Key} {v : D} (h : k ∉ kvs.map (·.1)) : putKD kvs k v = kvs ++ [(k, v)] := by
  unfold putKD
  rw [if_neg]
  intro h2
  obtain ⟨kv, h3, h4⟩ := List.any_eq_true.mp h2
  exact h (List.mem_map.mpr ⟨kv, h3, of_decide_eq_true h4⟩)
theorem mergeKD_app : ∀ {more kvs : List (Key × D)}, (kvs.map (·.1) ++ more.map (·.1)).Nodup → mergeKD kvs more = kvs ++ more
  | [], kvs, _ => by simp [mergeKD]
  | (k, v) :: more, kvs, nd => by
    have hk : k ∉ kvs.map (·.1) := fun h => (List.nodup_append.mp nd).2.2 _ h _ (by simp) rfl
    show mergeKD (putKD kvs k v) more = _
    rw [put_new' hk, mergeKD_app (by simpa using nd)]
    simp
theorem mergeKD_nil {more : List (Key × D)} (nd : (more.map (·.1)).Nodup) : mergeKD [] more = more := by rw [mergeKD_app (by simpa using nd)]; rfl
/-- {k: v, ..}: what becomes of it -/
def dspO (ps : List (D × D)) : Option (List (Key × D)) := (keysD ps).bind fun kds => if kds.length ≤ 15 then some (mergeKD [] kds) else none
def dicE (m : Env → M Ex (List (D × D))) : Env → M Ex D := fun ρ => bindM (noX (m ρ)) fun ps => bindM (seeM fun _ => dspO ps) fun kvs => pureM (.dic (kvs.map (·.1)) (kvs.map (·.2)))
def dicM (m : Env → M Ex (List (D × D))) : Env → M Ex D := fun ρ => bindM (noX (m ρ)) fun ps => bindM (seeM fun _ => dspO ps) fun kvs => newM (.dic kvs)
theorem dsp_go {keys : List (Option Expr)} {values : List Expr} {m : Env → M Ex (List (D × D))} {k : List (Key × D) → M Ex D} {Q : VK} {trs : List (TE × TE)} (hp : ∀ σ H Q, tX g (RelPs g) W m σ H Q → tPairs trs σ H Q) (hm : ∀ ρ, Mono (m ρ)) (hk : ∀ kvs, Mono (k kvs))
    (hk2 : ∀ (Z F H : Hp) (st : S) (p : Addr) (kds : List (Key × D)) (kvs : List (Key × V)) (Q : VK) (E : Ex → S → Prop), Z p = none → Sim g (upd Z p (.dK kvs)) st F H → kvs.map (·.1) = kds.map (·.1) → RelDs g F (kds.map (·.2)) (kvs.map (·.2)) → k kds st (Res g (RelD g) Z F Q) E → Q (.ref p) H)
    (h : tX g (RelD g) W (fun ρ => bindM (noX (m ρ)) fun ps => bindM (seeM fun _ => dspO ps) k) σ H Q) : tDisp trs σ H Q := by
  obtain ⟨Z, F, st, ρ, E, N, q⟩ := h
  intro p np
  refine hp _ _ _ ⟨upd Z p (.dK []), F, st, ρ, fun _ _ _ => False, ⟨N.sim.pinNew np, N.env, fun _ _ _ _ _ _ _ _ _ _ _ _ z => z.elim⟩, hm ρ _ _ _ _ _ (fun ps s' z vs F' H' e sim r => ?_) (fun _ _ z => z) q⟩
  obtain ⟨kds, hd, z⟩ := z
  obtain ⟨kds0, h1, h2⟩ := Option.bind_eq_some_iff.mp hd
  split at h2
  · rename_i hl
    cases (Option.some.inj h2)
    obtain ⟨kvs, rfl, h3, h4⟩ := keysD_rel r h1
    have hp2 : H' p = some (.dK []) := (sim.pin p _ upd_same).2.2
    have hZ : Z p = none := by
      cases hz : Z p with
      | none => rfl
      | some o => rw [(N.sim.pin p o hz).2.2] at np; cases np
    refine ⟨hp2, kvs, rfl, by have := congrArg List.length h3; simp at this; omega, ?_⟩
    obtain ⟨h5, h6⟩ := mergeKD_rel (g := g) (F := F') (more := kds0) (mv := kvs) (kds := []) (kvs := []) h3 h4 rfl .nil
    exact hk2 Z F' _ s' p _ _ Q _ hZ sim.pinSet h5 h6 (hk _ _ _ _ _ _ (fun _ _ w => w.mono e) (fun _ _ w => w) z)
  · cases h2
theorem fe_dicE {keys : List (Option Expr)} {values : List Expr} {m : Env → M Ex (List (D × D))} (h : FPs g X W pos keys values m) (hall : keys.all (·.isSome) = true) (hl : keys.length = values.length) (h0 : keys ≠ []) (h15 : keys.length ≤ 15) : FE g X W (.Dict keys values pos) (dicE m) := by
  obtain ⟨⟨trs, h1, h2⟩, h3⟩ := h
  refine ⟨PE.imp (pe_disp h1 hall hl h0 h15) fun σ H Q q => dsp_go (keys := keys) (values := values) h2 h3 (fun _ => mono_pure _) (fun Z F H st p kds kvs Q E z sim e1 r q => ?_) q, fun ρ => mono_bind (mono_noX (h3 ρ)) fun _ => mono_bind (mono_see _) fun _ => mono_pure _⟩
  have nF := (sim.pin p _ upd_same).1
  have s := same_upd (o := .dK kvs) nF
  exact q _ _ _ s (sim.pinKeep z) (by unfold RelD; exact ⟨p, kvs, rfl, upd_same, e1, r.mono s⟩)
theorem fe_dicM {keys : List (Option Expr)} {values : List Expr} {m : Env → M Ex (List (D × D))} (h : FPs g X W pos keys values m) (hall : keys.all (·.isSome) = true) (hl : keys.length = values.length) (h0 : keys ≠ []) (h15 : keys.length ≤ 15) : FE g X W (.Dict keys values pos) (dicM m) := by
  obtain ⟨⟨trs, h1, h2⟩, h3⟩ := h
  refine ⟨PE.imp (pe_disp h1 hall hl h0 h15) fun σ H Q q => dsp_go (keys := keys) (values := values) h2 h3 (fun _ => mono_new) (fun Z F H st p kds kvs Q E z sim e1 r q => ?_) q, fun ρ => mono_bind (mono_noX (h3 ρ)) fun _ => mono_bind (mono_see _) fun _ => mono_new⟩
  obtain ⟨nF, nS, hh⟩ := sim.pin p _ upd_same
  exact q p nS _ F H (Same.refl _) (sim.pinPut z ⟨kvs, hh, e1, r⟩) relD_ref
instance : MB prsN := ⟨fun _ => mono_pure _⟩
instance {k v : Env → M Ex D} {r : Env → M Ex (List (D × D))} [MB k] [MB v] [MB r] : MB (prsC k v r) := ⟨fun ρ => mono_bind (MB.mono ρ) fun _ => mono_bind (MB.mono ρ) fun _ => mono_bind (MB.mono ρ) fun _ => mono_pure _⟩
instance {m : Env → M Ex (List (D × D))} [MB m] : MB (dicE m) := ⟨fun ρ => mono_bind (mono_noX (MB.mono ρ)) fun _ => mono_bind (mono_see _) fun _ => mono_pure _⟩
instance {m : Env → M Ex (List (D × D))} [MB m] : MB (dicM m) := ⟨fun ρ => mono_bind (mono_noX (MB.mono ρ)) fun _ => mono_bind (mono_see _) fun _ => mono_new⟩
/-! dict(d) -/
theorem dic_rd {d : D} {v : V} {kds : List (Key × D)} (sim : Sim g Z st F H) (r : RelD g F d v) (h : dicOf st d = some kds) : ∃ a kvs, v = .ref a ∧ H a = some (.dK kvs) ∧ kvs.map (·.1) = kds.map (·.1) ∧ RelDs g F (kds.map (·.2)) (kvs.map (·.2)) := by
  cases d with
  | dic ks vs =>
    cases (Option.some.inj h)
    unfold RelD at r
    obtain ⟨a, kvs, rfl, h1, h2, h3⟩ := r
    have hl : ks.length = vs.length := by rw [← h2, ← h3.len]; simp
    refine ⟨a, kvs, rfl, sim.same _ _ h1, ?_, ?_⟩
    · rw [h2, List.map_fst_zip (Nat.le_of_eq hl)]
    · rw [List.map_snd_zip (Nat.le_of_eq hl.symm)]; exact h3
  | ref a =>
    unfold RelD at r
    subst r
    cases e : st.map a with
    | none => rw [show dicOf st (.ref a) = obK (st.map a) from rfl, e] at h; cases h
    | some o =>
      rw [show dicOf st (.ref a) = obK (st.map a) from rfl, e] at h
      cases o with
      | dic kvs =>
        cases (Option.some.inj h)
        obtain ⟨_, vs, h1, h2, h3⟩ := sim.ob a _ e
        exact ⟨a, vs, rfl, h1, h2, h3⟩
      | _ => cases h
  | _ => cases h
def dcpO (ds : List D) (st : S) : Option (List (Key × D)) := (one ds).bind fun d => dicOf st d
def dcpE (a : Env → M Ex (List D)) : Env → M Ex D := fun ρ => bindM (a ρ) fun ds => bindM (seeM (dcpO ds)) fun kvs => pureM (.dic (kvs.map (·.1)) (kvs.map (·.2)))
def dcpM (a : Env → M Ex (List D)) : Env → M Ex D := fun ρ => bindM (a ρ) fun ds => bindM (seeM (dcpO ds)) fun kvs => newM (.dic kvs)
instance {a : Env → M Ex (List D)} [MB a] : MB (dcpE a) := ⟨fun ρ => mono_bind (MB.mono ρ) fun _ => mono_bind (mono_see _) fun _ => mono_pure _⟩
instance {a : Env → M Ex (List D)} [MB a] : MB (dcpM a) := ⟨fun ρ => mono_bind (MB.mono ρ) fun _ => mono_bind (mono_see _) fun _ => mono_new⟩
theorem dcp_go {a : Env → M Ex (List D)} {k : List (Key × D) → M Ex D} {Q : VK} (hm : ∀ ρ, Mono (a ρ)) (hk : ∀ kvs, Mono (k kvs))
    (hk2 : ∀ (Z F H : Hp) (st : S) (p : Addr) (kds : List (Key × D)) (kvs : List (Key × V)) (Q : VK) (E : Ex → S → Prop), H p = none → Sim g Z st F H → kvs.map (·.1) = kds.map (·.1) → RelDs g F (kds.map (·.2)) (kvs.map (·.2)) → k kds st (Res g (RelD g) Z F Q) E → Q (.ref p) (upd H p (.dK kvs)))
    (h : tX g (RelD g) W (fun ρ => bindM (a ρ) fun ds => bindM (seeM (dcpO ds)) k) σ H Q) : tX g (RelDs g) W a σ H fun xs H => ∃ (a : Addr) (kvs : List (Key × V)), xs = [.ref a] ∧ Rd H a (.dK kvs) ∧ ∀ p, H p = none → Q (.ref p) (upd H p (.dK kvs)) := by
  obtain ⟨Z, F, st, ρ, E, N, q⟩ := h
  refine tX.go (R1 := RelDs g) N (hm ρ) (fun _ => mono_bind (mono_see _) hk) q fun ds vs F st H1 e N r q => ?_
  obtain ⟨kds, ed, q⟩ := q
  obtain ⟨d1, h0, h1⟩ := Option.bind_eq_some_iff.mp ed
  cases one_inv h0
  obtain ⟨v, vs, rfl, r1, r2⟩ := r.cons_inv
  rw [r2.nil_inv]
  obtain ⟨a, kvs, rfl, h2, h3, h4⟩ := dic_rd N.sim r1 h1
  exact ⟨a, kvs, rfl, .of h2, fun p np => hk2 Z F H1 st p kds kvs Q _ np N.sim h3 h4 q⟩
theorem fe_dcpE {a : Env → M Ex (List D)} (hg : Gl X "dict") (hm : X.mg "dict" = none) (ha : FA g X W (e :: es) a) (he : starEach (e :: es) X.env = (false, eval e X.env) :: starEach es X.env := by rfl) (hpl : (backTo pos (starEach es X.env)).any (·.1) = false := by rfl) :
    FE g X W (.Call (.Name "dict" p) (e :: es) [] pos) (dcpE a) :=
  ⟨PE.imp (pe_callTy call_dictD hg hm (by decide +kernel) ha.pa (by decide) (by decide) he hpl) fun σ H Q q => dcp_go ha.mono (fun _ => mono_pure _) (fun Z F H st p kds kvs Q E np sim e1 r q => by
    have s := same_upd (o := .dK kvs) (sim.free np).1
    exact q _ _ _ s (sim.new np) (by unfold RelD; exact ⟨p, kvs, rfl, upd_same, e1, r.mono s⟩)) q, fun ρ => mono_bind (ha.mono ρ) fun _ => mono_bind (mono_see _) fun _ => mono_pure _⟩
theorem fe_dcpM {a : Env → M Ex (List D)} (hg : Gl X "dict") (hm : X.mg "dict" = none) (ha : FA g X W (e :: es) a) (he : starEach (e :: es) X.env = (false, eval e X.env) :: starEach es X.env := by rfl) (hpl : (backTo pos (starEach es X.env)).any (·.1) = false := by rfl) :
    FE g X W (.Call (.Name "dict" p) (e :: es) [] pos) (dcpM a) :=
  ⟨PE.imp (pe_callTy call_dictD hg hm (by decide +kernel) ha.pa (by decide) (by decide) he hpl) fun σ H Q q => dcp_go ha.mono (fun _ => mono_new) (fun Z F H st p kds kvs Q E np sim e1 r q => by
    obtain ⟨nF, nS⟩ := sim.free np
    exact q p nS _ F _ (Same.refl _) (sim.put nF (.inl np) ⟨kvs, upd_same, e1, r⟩) relD_ref) q, fun ρ => mono_bind (ha.mono ρ) fun _ => mono_bind (mono_see _) fun _ => mono_new⟩
/-! isinstance(x, (c, ..)) -/
def isiTs (cs : List Str) (ms : List String) (st : S) (x : D) : Option Bool := match tyS st x with
  | some t => some (ms.any fun m => subT t m)
  | none => (clsS st x).bind fun c' => if c' ∈ cs then some false else none
def lowT : List String := ["bool", "int", "str", "tuple", "list", "dict"]
theorem kitAny_all {K : PySem.W.Frag} {t : Value} (f : String → Bool) : ∀ {ms : List String}, (∀ m ∈ ms, PySem.W.kitOne K t (.type m) = some (f m)) → PySem.W.kitAny K t (ms.map Value.type) = some (ms.any f)
  | [], _ => rfl
  | m :: ms, h => by
    rw [List.map_cons]
    unfold PySem.W.kitAny
    rw [h m List.mem_cons_self, List.any_cons]
    cases f m with
    | true => rfl
    | false => exact kitAny_all f fun m' hm => h m' (List.mem_cons_of_mem _ hm)
theorem tys_rel : ∀ {ms : List String} {vs : List V}, RelDs g F (ms.map D.ty) vs → vs = ms.map V.ty
  | [], _, r => r.nil_inv
  | m :: ms, _, r => by
    obtain ⟨v, vs, rfl, r1, r2⟩ := r.cons_inv
    unfold RelD at r1
    rw [r1, tys_rel r2]; rfl
theorem tys_cls : ∀ (ms : List String), Paired ClsV (ms.map V.ty) (ms.map Value.type)
  | [] => .nil
  | m :: ms => .cons (.ty m) (tys_cls ms)
def isiE (cs : List Str) (ms : List String) (a : Env → M Ex D) : Env → M Ex D := fun ρ => bindM (a ρ) fun x => seeM fun st => (isiTs cs ms st x).map .bl
instance {cs : List Str} {ms : List String} {a : Env → M Ex D} [MB a] : MB (isiE cs ms a) := ⟨fun ρ => mono_bind (MB.mono ρ) fun _ => mono_see _⟩
theorem fe_isiT {cs : List Str} {ms : List String} {a : Env → M Ex D} {m : Env → M Ex (List D)} {ts : List Expr} {x1} {tp : Pos} (hK : X.K = g.K) (o : OwnTy g cs) (hms : ∀ m ∈ ms, m ∈ lowT) (hlen : ms.length ≤ 100) (hg : Gl X "isinstance") (hm : X.mg "isinstance" = none) (he : FE g X W e a) (ht : FA g X W ts m) (hm' : m = fun _ => pureM (ms.map D.ty))
    (hs1 : starEach [e, .Tuple ts x1 tp] X.env = (false, eval e X.env) :: starEach [.Tuple ts x1 tp] X.env := by rfl) (hs2 : starEach [.Tuple ts x1 tp] X.env = (false, eval (.Tuple ts x1 tp) X.env) :: starEach [] X.env := by rfl) (hpl : (backTo pos (starEach [.Tuple ts x1 tp] X.env)).any (·.1) = false := by rfl) :
    FE g X W (.Call (.Name "isinstance" p) [e, .Tuple ts x1 tp] [] pos) (isiE cs ms a) := by
  refine ⟨PE.imp (pe_callB call_isiT hg hm (by decide +kernel) (pa_cons he.pe (pa_cons (pe_tup ht.pa) pa_nil hs2) hs1) (by decide) (by decide) hs1 hpl) fun σ H Q ⟨Z, F, st, ρ, E, N, q⟩ => ?_, fun ρ => mono_bind (he.mono ρ) fun _ => mono_see _⟩
  refine tX.go N (he.mono ρ) (fun _ => mono_see _) q fun d v F st H1 e N r q => ?_
  refine ⟨Z, F, st, ρ, E, N, ?_⟩
  rw [hm']
  intro vs F' H' e2 sim r2
  have hv := tys_rel r2
  subst hv
  refine ⟨by rw [List.length_map]; exact Nat.le_trans hlen (by decide), fun p np => ?_⟩
  obtain ⟨b, eb, q⟩ := q
  obtain ⟨b, hb, rfl⟩ := Option.map_eq_some_iff.mp eb
  have nF := (sim.free np).1
  have sim2 := sim.new (o := .tup (ms.map V.ty)) np
  have e3 := same_upd (o := .tup (ms.map V.ty)) nF
  have r3 := r.mono (e2.trans e3)
  have Q2 := q (.bl b) _ _ (e2.trans e3) sim2 relD_bl
  rw [hK]
  unfold isiTs at hb
  split at hb
  · rename_i t ht
    cases hb
    exact ⟨v, p, _, .type t, _, _, rfl, upd_same, tys_cls ms, sim2.tyS r3 ht, kitAny_all (fun m => subT t m) fun m hm => kit_ty (kit_base t (tyS_base ht) m (hms m hm)), Q2⟩
  · obtain ⟨c', h1, h2⟩ := Option.bind_eq_some_iff.mp hb
    split at h2
    · rename_i hc
      cases h2
      obtain ⟨a, dx, fs, rfl, ha⟩ := sim2.clsS r3 h1
      refine ⟨_, p, _, _, _, _, rfl, upd_same, tys_cls ms, o.ins c' hc ha, ?_, Q2⟩
      have := kitAny_all (K := g.K) (t := .ref (g.cl c')) (fun _ => false) (ms := ms) fun m hm => o.low c' hc m (hms m hm)
      rw [this]; simp
    · cases h2
variable {s : S} {Q : D → S → Prop} {E : Ex → S → Prop} {QP : List (D × D) → S → Prop}
theorem x_isiE {cs : List Str} {ms : List String} {a : Env → M Ex D} : isiE cs ms a ρ s Q E = a ρ s (fun x s1 => ∃ v, ((isiTs cs ms s1 x).map D.bl) = some v ∧ Q v s1) E := rfl
theorem x_prsN : prsN ρ s QP E = QP [] s := rfl
theorem x_prsC {k v : Env → M Ex D} {r : Env → M Ex (List (D × D))} : prsC k v r ρ s QP E = k ρ s (fun x s1 => v ρ s1 (fun y s2 => r ρ s2 (fun ps s3 => QP ((x, y) :: ps) s3) E) E) E := rfl
theorem x_dicE {m : Env → M Ex (List (D × D))} : dicE m ρ s Q E = m ρ s (fun ps s1 => ∃ kvs, dspO ps = some kvs ∧ Q (.dic (kvs.map (·.1)) (kvs.map (·.2))) s1) (fun _ _ => False) := rfl
theorem x_dicM {m : Env → M Ex (List (D × D))} : dicM m ρ s Q E = m ρ s (fun ps s1 => ∃ kvs, dspO ps = some kvs ∧ ∀ a, s1.map a = none → Q (.ref a) (s1.set a (.dic kvs))) (fun _ _ => False) := rfl
theorem x_dcpE {a : Env → M Ex (List D)} : dcpE a ρ s Q E = a ρ s (fun ds s1 => ∃ kvs, dcpO ds s1 = some kvs ∧ Q (.dic (kvs.map (·.1)) (kvs.map (·.2))) s1) E := rfl
theorem x_dcpM {a : Env → M Ex (List D)} : dcpM a ρ s Q E = a ρ s (fun ds s1 => ∃ kvs, dcpO ds s1 = some kvs ∧ ∀ a, s1.map a = none → Q (.ref a) (s1.set a (.dic kvs))) E := rfl
theorem dcp_one {d : D} : dcpO [d] s = dicOf s d := rfl
theorem dsp_strs {ps : List (Str × D)} (nd : (ps.map (·.1)).Nodup) (hl : ps.length ≤ 15) : dspO (ps.map fun p => (.str p.1, p.2)) = some (ps.map fun p => (.inr p.1, p.2)) := by
  have h : ∀ ps : List (Str × D), keysD (ps.map fun p => (.str p.1, p.2)) = some (ps.map fun p => (.inr p.1, p.2)) := by
    intro ps
    induction ps with
    | nil => rfl
    | cons p ps ih => show ((keysD (ps.map fun p => (D.str p.1, p.2))).map _) = _; rw [ih]; rfl
  unfold dspO
  rw [h, Option.bind_some, if_pos (by simpa using hl), mergeKD_nil]
  rw [List.map_map]
  exact List.Pairwise.map (fun p : Str × D => (Sum.inr p.1 : Key)) (R := fun a b : Str × D => a.1 ≠ b.1) (fun a b h e => h (Sum.inr.inj e)) (List.pairwise_map.mp nd)
theorem fnok_fail {P : Program} {w : World} {K : PySem.W.Frag} {mg : Str → Option Value} {base : Heap} {CX : CXT} {k n : Nat} {f : Addr} {fd : FuncData} {ps : List Str} (hn : ps.length = n) : FnOk P w K mg base CX k f fd ps (spD g n fun _ => failM) :=
  ⟨fun vs H Q E ⟨_, _, _, _, hl, _⟩ => hl.trans hn.symm, fun _ _ _ _ _ _ _ _ _ _ _ _ _ ⟨_, _, _, _, _, _, _, q⟩ => q.elim⟩
/-! xs[i] = v -/
def setIt (x k v : D) : M (Ex × Env) Unit := fun s Q _ => ∃ a xs i j, x = .ref a ∧ s.map a = some (.lst xs) ∧ k = .int i ∧ ixN xs.length i = some j ∧ Q () (s.set a (.lst (xs.set j v)))
theorem mono_setIt {x k v : D} : Mono (setIt x k v) := fun _ _ _ _ _ hq _ ⟨a, xs, i, j, h1, h2, h3, h4, h⟩ => ⟨a, xs, i, j, h1, h2, h3, h4, hq _ _ h⟩
def itemS (o i v : Env → M Ex D) : Env → MS := fun ρ => bindM (up ρ (v ρ)) fun y => bindM (up ρ (o ρ)) fun x => bindM (up ρ (i ρ)) fun k => bindM (setIt x k y) fun _ => pureM (.nx ρ)
instance {o i v : Env → M Ex D} [MB o] [MB i] [MB v] : MB (itemS o i v) := ⟨fun ρ => mono_bind (mono_up (MB.mono ρ)) fun _ => mono_bind (mono_up (MB.mono ρ)) fun _ => mono_bind (mono_up (MB.mono ρ)) fun _ => mono_bind mono_setIt fun _ => mono_pure _⟩
theorem fs_lput {e3 : Expr} {o i v : Env → M Ex D} {p' : Pos} (ho : FE g X W e1 o) (hi : FE g X W e2 i) (hv : FE g X W e3 v) (hs : swapsWithSole [.Subscript e1 e2 p'] e3 pos.line X.env = pure false := by rfl) (hw : swappedStores [.Subscript e1 e2 p'] e3 X.env = pure none := by rfl) (h1 : (assignEach [.Subscript e1 e2 p'] X.env).map (·.2) = [assign (.Subscript e1 e2 p') X.env] := by rfl)
    (ha : ∀ v, assign (.Subscript e1 e2 p') X.env v = (do
      let ov ← holding [v] (eval e1 X.env)
      let iv ← holding [v, ov] (eval e2 X.env)
      standAt p'
      holding [v, ov, iv] (setItem ov iv v)
      release [v, ov, iv] []) := by intro _; rfl) :
    FS g X W (.Assign [.Subscript e1 e2 p'] e3 pos) (itemS o i v) := by
  have m3 : ∀ ρ y x k, Mono (bindM (setIt x k y) fun _ => (pureM (.nx ρ) : MS)) := fun ρ y x k => mono_bind mono_setIt fun _ => mono_pure _
  have m2 : ∀ ρ y x, Mono (bindM (up ρ (i ρ)) fun k => bindM (setIt x k y) fun _ => (pureM (.nx ρ) : MS)) := fun ρ y x => mono_bind (mono_up (hi.mono ρ)) (m3 ρ y x)
  have m1 : ∀ ρ y, Mono (bindM (up ρ (o ρ)) fun x => bindM (up ρ (i ρ)) fun k => bindM (setIt x k y) fun _ => (pureM (.nx ρ) : MS)) := fun ρ y => mono_bind (mono_up (ho.mono ρ)) (m2 ρ y)
  refine ⟨PS.imp (ps_asg hv.pe (pg_sub ho.pe hi.pe set_list ha) hs hw h1) fun D σ H ⟨Z, F, st, ρ, E, N, q⟩ => tS.go N (hv.mono ρ) (m1 ρ) q fun dy y F st H1 e N ry q => tS.go (R1 := RelD g) N (ho.mono ρ) (m2 ρ _) q fun dx x F2 st H2 e2 N rx q => tS.go (R1 := RelD g) N (hi.mono ρ) (m3 ρ _ _) q fun dk k F3 st H3 e3 N rk q => ?_,
    fun ρ => mono_bind (mono_up (hv.mono ρ)) (m1 ρ)⟩
  obtain ⟨a, xs, i, j, rfl, hm, rfl, hj, q⟩ := q
  unfold RelD at rx rk
  subst rx rk
  obtain ⟨nF, vs, h1, h2⟩ := N.sim.ob a _ hm
  refine ⟨a, vs, i, j, rfl, rfl, h1, by rw [h2.len]; exact hj, ?_⟩
  exact q σ F3 _ (Same.refl _) (N.sim.put nF (.inr ⟨_, hm, by intro z; cases z⟩) ⟨_, upd_same, h2.set ((ry.mono e2).mono e3) j⟩) N.env
theorem x_itemS {a b c : Env → M Ex D} {QF : Fl → S → Prop} {EE : Ex × Env → S → Prop} : itemS a b c ρ s QF EE = c ρ s (fun y s1 => a ρ s1 (fun x s2 => b ρ s2 (fun k s3 => setIt x k y s3 (fun _ s4 => QF (.nx ρ) s4) EE) (fun x s' => EE (x, ρ) s')) (fun x s' => EE (x, ρ) s')) (fun x s' => EE (x, ρ) s') := rfl
theorem x_setItS {a : Addr} {xs : List D} {i : Int} {v : D} {QU : Unit → S → Prop} {EE : Ex × Env → S → Prop} : setIt (.ref a) (.int i) v (s.set a (.lst xs)) QU EE = ∃ j, ixN xs.length i = some j ∧ QU () (s.set a (.lst (xs.set j v))) := by
  refine propext ⟨fun ⟨a', xs', i', j, e, h1, e2, h2, h3⟩ => ?_, fun ⟨j, h2, h3⟩ => ⟨a, xs, i, j, rfl, S.set_same, rfl, h2, by rw [S.set_set]; exact h3⟩⟩
  cases e
  cases e2
  rw [S.set_same] at h1
  cases h1
  rw [S.set_set] at h3
  exact ⟨j, h2, h3⟩
/-- a keyword's default that is a tuple -/
def kwAd (K : PySem.W.Frag) (f : Addr) (x : Str) : Addr := match K.lookup f with
  | some ⟨_, _, .func fd, _⟩ => (match fd.kwdefaults with
    | .ref D => (match PySem.W.nsIn K D x with
      | some (some (.ref t)) => t
      | _ => 0)
    | _ => 0)
  | _ => 0
theorem fe_neg {i : Int} {k} {p1 : Pos} : FE g X W (.UnaryOp .USub (.Constant (.int i) k p1) pos) (cst (.int (-i))) :=
  ⟨PE.imp (pe_un un_neg pe_int) fun σ H Q ⟨Z, F, st, ρ, E, N, q⟩ => ⟨i, rfl, tX.done N relD_int q⟩, fun _ => mono_pure _⟩
end
end DL

namespace DL
def runs_D20 := And.intro @x_isiE (And.intro @x_prsN (And.intro @x_prsC (And.intro @x_dicE (And.intro @x_dicM (And.intro @x_dcpE (And.intro @x_dcpM (And.intro @dcp_one (And.intro @x_itemS (@x_setItS)))))))))
end DL
/-! ### exceptions: several clauses, with and without a name -/
namespace DL
open PySem PySem.Spec PyProof.Rows L2
/-- one clause: its class, the slot of its name, its suite's reading -/
structure Clz where
  c : Value
  i : Option Nat
  ts : Addr → Value → Option Addr → TS
def clrS : Option Nat → L2.St → L2.St
  | none, σ => σ
  | some i, σ => σ.set i none
def putS : Option Nat → Addr → L2.St → L2.St
  | none, _, σ => σ
  | some i, a, σ => σ.set i (some (.ref a))
def endsC (i : Option Nat) (D : Ends) : Ends := { nx := fun σ H => D.nx (clrS i σ) H, rt := D.rt, bk := fun σ H => D.bk (clrS i σ) H, ct := fun σ H => D.ct (clrS i σ) H }
def wClz (K : PySem.W.Frag) (Wo : WX) (D : Ends) : List Clz → WX
  | [] => Wo
  | z :: r => fun cls d σ H => ∃ b, PySem.W.exmOne K cls z.c = some b ∧ (b = true → ∀ a, H a = none → z.ts a cls d (endsC z.i D) (putS z.i a σ) H) ∧ (b = false → wClz K Wo D r cls d σ H)
inductive ClzOk (X : Cx) : List ExceptHandler → List Clz → Prop
  | nil : ClzOk X [] []
  | plain {x : Str} {z : Clz} {b0 : Stmt} {bs : List Stmt} {p1 p2 : Pos} {hs : List ExceptHandler} {l : List Clz} (hi : z.i = none) (hc : Names X x z.c)
      (su : ∀ a oe cls d pn, Zc cls d oe → (∃ vs, oe.data = .fields vs) → PSs (X.suite a ((a, oe) :: pn)) (b0 :: bs) (z.ts a cls d)) (r : ClzOk X hs l) :
      ClzOk X (.ExceptHandler (some (.Name x p1)) none (b0 :: bs) p2 :: hs) (z :: l)
  | named {x n : Str} {i : Nat} {z : Clz} {b0 : Stmt} {bs : List Stmt} {p1 p2 : Pos} {hs : List ExceptHandler} {l : List Clz} (hi : z.i = some i) (hn : X.N[i]? = some n) (hl : X.env.kindOf n = some .local) (hc : Names X x z.c)
      (su : ∀ a oe cls d pn, Zc cls d oe → (∃ vs, oe.data = .fields vs) → PSs (X.suite a ((a, oe) :: pn)) (b0 :: bs) (z.ts a cls d)) (r : ClzOk X hs l) :
      ClzOk X (.ExceptHandler (some (.Name x p1)) (some n) (b0 :: bs) p2 :: hs) (z :: l)
section
variable {X : Cx} {body : List Stmt} {h0 : ExceptHandler} {hds : List ExceptHandler} {l : List Clz} {pos : Pos} {tb : WX → TS} {Wo : WX}
theorem ps_clz [k : Kd] (hs : X.stack = X.env :: X.outer) (hf : X.env.frame = some X.env.locals) (hN : X.N.Nodup) (tk : Takes X Wo)
    (hb : ∀ W pn xe, takB k.b (X.tr pn xe) W → PassesOwn (model X.prog X.w) X.A X.env xe → PSs (X.tr pn xe) body (tb W)) (hh : ClzOk X (h0 :: hds) l) :
    PS X (.Try body (h0 :: hds) [] [] pos) (fun D σ H => tb (wClz X.K Wo D l) D σ H) := by
  refine ⟨fun pins s σ H D I h => wpAny_Try_except ?_⟩
  have ok := I.ok
  have hfr : X.A.frames = some (X.env :: X.outer) := ok.frames.trans (congrArg some hs)
  refine wpAny_mono ((hb (wClz X.K Wo D l) (X.pn ++ pins) _ (fun u s' xx => ?_) PassesOwn.looking).run [] s σ H D (I.toTry _) h) (fun f s1 hsp => ?_) (fun _ _ z => z)
  · obtain ⟨a, B, sI, pins', σ1, H1, cls, d, rfl, J0, nb, up, sky, na, os, ag, w⟩ := xx
    have J := J0.ofTry ok
    show wpAny (model X.prog X.w) X.A (noteFrame (.ref a) X.env) _ _ _
    refine L2N.Sky.land (zB_steady (b := k.b)) hfr hf (hs ▸ sky) fun h3 fl up3 => ?_
    obtain ⟨oe, ve, he, hz, hd⟩ := fl.there
    have nfr : a ∉ frs (X.env :: X.outer) := fun hm => by
      obtain ⟨_, o, e1, e2⟩ := fl.2.2.1.mem hm
      have e3 := Option.some.inj (he.symm.trans e1)
      subst e3
      exact e2 _ hd
    have nL : a ≠ X.env.locals := fun z => nfr (List.mem_filterMap.mpr ⟨_, List.mem_cons_self, hf.trans (congrArg some z.symm)⟩)
    have nF : a ∉ X.fs := fun hm => let ⟨e, m, q⟩ := List.mem_filterMap.mp hm; nfr (List.mem_filterMap.mpr ⟨e, List.mem_cons_of_mem _ m, q⟩)
    have J3 : Inv X pins σ1 H1 { s' with heap := h3 } := J.landed nb fl.1 (up.trans up3) os ag
    have S3 := J3.suite he hd na nL nF
    have test : ∀ {x : Str} {c : Value} {np : Pos} {Q E : Value → Shared → Prop}, Names X x c → Q c { s' with heap := h3 } → wpAny (model X.prog X.w) (X.A.mark (some (.ref a))) (eval (.Name x np) X.env) Q E { s' with heap := h3 } := fun {x c np Q E} hc q => by
      rcases hc with ⟨hg, hdb, hm | ⟨hm, hv, hnn⟩⟩
      · exact ld_glob (X := X.suite a ((a, oe) :: (X.pn ++ pins))) S3 hg hm q hdb
      · exact ld_blt (X := X.suite a ((a, oe) :: (X.pn ++ pins))) S3 hg hm hv q hnn hdb
    have LT : PySem.W.Looks (model X.prog X.w) h3 (typeOf (.ref a)) cls := fun A Q E s k q => wpAny_typeOf_ref (k _ _ he) ((zB_zc hz).1 ▸ q)
    have go : ∀ {hs' : List ExceptHandler} {l' : List Clz}, ClzOk X hs' l' → wClz X.K Wo D l' cls d σ1 H1 → wpAny (model X.prog X.w) X.A (handleBy (.ref a) X.env hs') (SP X pins D) X.xe { s' with heap := h3 } := by
      intro hs' l' hk
      induction hk with
      | nil =>
        intro w
        obtain ⟨k1, k2, k3, oe', vs, T, oT, ts', e1, e2, e3, e4, e5⟩ := id fl
        have out : wpAny (model X.prog X.w) X.A (setFlight (.ref a) X.env.frame) (fun _ s4 => wpAny (model X.prog X.w) X.A (throw (.ref a) : Sem Flow) (SP X pins D) X.xe s4) X.xe { s' with heap := h3 } := by
          rw [hf]
          exact HandSPX.setFlight_upZ fl fun h4 hh4 up4 => wpAny_throw (tk _ _ ⟨a, B, sI, pins, σ1, H1, cls, d, rfl, J, nb, (up.trans up3).trans up4, .inr (.inr (hs ▸ hh4)), na, os, ag, w⟩)
        refine wpAny_handleBy_nil ?_
        unfold PySem.passOn
        refine wpAny_bind (wpAny_field e1 e3 e4 ?_)
        rw [if_neg (by simp : ¬ ((Value.ref T == Value.none) = true))]
        first
          | exact wpAny_bind (wpAny_pure (wpAny_bind out))
          | exact wpAny_bind out
      | @plain x z b0 bs p1 p2 hs2 l2 hi hc su r ih =>
        rintro ⟨b, hb1, yes, no⟩
        rw [hi] at yes
        refine wpAny_handleBy_cons (codeAny_handlers_test (test hc ((PySem.W.exm_one (M := model X.prog X.w) J3.kIn LT hb1).here ?_))) (by intro q; cases q)
        cases b with
        | false => exact ih (no rfl)
        | true =>
          refine codeAny_handlers_suite (HandSPX.lands_againZ fl fun h4 fl4 up4 => ?_)
          obtain ⟨oe4, _, he4, hz4, hd4⟩ := fl4.there
          have S4 := (J.landed nb fl4.1 ((up.trans up3).trans up4) os ag : Inv X pins σ1 H1 { s' with heap := h4 }).suite he4 hd4 na nL nF
          refine wpAny_mono ((su a oe4 cls d (X.pn ++ pins) (zB_zc hz4) ⟨_, hd4⟩).run [] _ _ H1 _ S4 (yes rfl a na)) (fun f s6 hsp => ?_) (fun _ _ z => False.elim z)
          cases f with
          | ret u => obtain ⟨v6, σ6, H6, S6, r6, q6⟩ := hsp; exact ⟨_, _, _, S6.unsuite ok, r6, q6⟩
          | next => obtain ⟨σ6, H6, S6, q6⟩ := hsp; exact ⟨_, _, S6.unsuite ok, q6⟩
          | brk => obtain ⟨σ6, H6, S6, q6⟩ := hsp; exact ⟨_, _, S6.unsuite ok, q6⟩
          | cont => obtain ⟨σ6, H6, S6, q6⟩ := hsp; exact ⟨_, _, S6.unsuite ok, q6⟩
      | @named x n i z b0 bs p1 p2 hs2 l2 hi hn hl hc su r ih =>
        rintro ⟨b, hb1, yes, no⟩
        rw [hi] at yes
        refine wpAny_handleBy_cons (codeAny_handlers_test (test hc ((PySem.W.exm_one (M := model X.prog X.w) J3.kIn LT hb1).here ?_))) (by intro q; cases q)
        cases b with
        | false => exact ih (no rfl)
        | true =>
          refine codeAny_handlers_suite_as (HandSPX.lands_againZ fl fun h4 fl4 up4 => ?_)
          obtain ⟨oe4, _, he4, hz4, hd4⟩ := fl4.there
          have S4 := (J.landed nb fl4.1 ((up.trans up3).trans up4) os ag : Inv X pins σ1 H1 { s' with heap := h4 }).suite he4 hd4 na nL nF
          refine store_ok (X := X.suite a ((a, oe4) :: (X.pn ++ pins))) (v := .ref a) S4 hN hn (.inl hl) rfl (fun s5 S5 => ?_) (.inr hl)
          refine wpAny_mono ((su a oe4 cls d (X.pn ++ pins) (zB_zc hz4) ⟨_, hd4⟩).run [] s5 _ H1 _ S5 (yes rfl a na)) (fun f s6 hsp => ?_) (fun _ _ z => False.elim z)
          cases f with
          | ret u => obtain ⟨v6, σ6, H6, S6, r6, q6⟩ := hsp; exact gone_ok (S6.unsuite ok) hN hn hl fun s7 J7 => ⟨_, _, _, J7, r6, q6⟩
          | next => obtain ⟨σ6, H6, S6, q6⟩ := hsp; exact gone_ok (S6.unsuite ok) hN hn hl fun s7 J7 => ⟨_, _, J7, q6⟩
          | brk => obtain ⟨σ6, H6, S6, q6⟩ := hsp; exact gone_ok (S6.unsuite ok) hN hn hl fun s7 J7 => ⟨_, _, J7, q6⟩
          | cont => obtain ⟨σ6, H6, S6, q6⟩ := hsp; exact gone_ok (S6.unsuite ok) hN hn hl fun s7 J7 => ⟨_, _, J7, q6⟩
    exact go hh w
  · cases f with
    | ret u => obtain ⟨v, σ1, H1, J, r, q⟩ := hsp; exact ⟨v, σ1, H1, J.ofTry ok, r, q⟩
    | next => obtain ⟨σ1, H1, J, q⟩ := hsp; exact wpAny_execs_nil ⟨σ1, H1, J.ofTry ok, q⟩
    | brk => obtain ⟨σ1, H1, J, q⟩ := hsp; exact ⟨σ1, H1, J.ofTry ok, q⟩
    | cont => obtain ⟨σ1, H1, J, q⟩ := hsp; exact ⟨σ1, H1, J.ofTry ok, q⟩
end
section
variable {X : Cx} {e : Expr} {es : List Expr} {pos p : Pos}
/-- .. told that its context is None -/
theorem mk_endN {X : Cx} {pins : List (Addr × Obj)} {σ : L2.St} {H1 H2 : Hp} {Q : XK} {h1 hp2 h2 : Heap} {g1 g2 : Array GenState} {d1 d2 : Drawn} {t1 t2 : Nat} {os1 os2 : OsState} {a c d : Addr} {fs : List (Str × V)} (T : Raises X (.ref c)) (I1 : Inv X pins σ H1 ⟨h1, g1, d1, t1, os1⟩)
    (la : h1.objs.size ≤ a) (kp : ∀ b o, h1.get? b = some o → hp2.get? b = some o) (un : Un (frs X.stack) [] (upd H1 a (exo a c none)) H2 hp2 h2) (hok : HOk X.prog X.w H2 h2) (eo : os2 = os1) (hb : AllBare g2)
    (ea : H2 a = some (exo a c (some d))) (ed : H2 d = some (exd d fs)) (nd : H1 d = none) (q : Q (.ref c) (some d) (upd (del H2 a) d (.xd fs))) : L2N.MkP X pins σ Q (.ref a) ⟨h2, g2, d2, t2, os2⟩ := by
  obtain ⟨t0, G, J, kG, ge, hoe, na⟩ := mk_end0 (d2 := d2) (t2 := t2) I1 la kp un hok eo hb ea ed nd
  refine ⟨a, _, _, ⟨G, g2, d2, t2, os2⟩, _, .ref c, some d, rfl, J, kG, ge, hoe, ⟨rfl, rfl, fun vs e => ?_⟩, rfl, rfl, na, rfl, hb, T, q⟩
  cases e; rfl
theorem pmkN_oex {CX : CXT} {x : Str} {c fI : Addr} {k : Nat} {fd : FuncData} {ps : List Str} {sp : Sp} {is : List Value} {dvs : List V} {ta : TA} (T : OexC X.K c) (iC : PySem.W.findIn X.K (.ref c) "__init__" = some (some (.ref fI))) (tI : PySem.W.typeIn X.K (.ref fI) = some (.type "function"))
    (F1 : FnOk X.prog X.w X.K X.mg X.base CX k fI fd ps sp) (hr : Room (k + 1) X.A) (hb : Binds X.K fd ps is) (hd : Vals dvs is) (hx : Passes CX X (fun _ _ _ => False)) (hg : Gl X x) (hm : X.mg x = some (.ref c)) (ha : PA X (e :: es) ta)
    (hdb : (x == ("__debug__" : Str)) = false := by decide) (he : starEach (e :: es) X.env = (false, eval e X.env) :: starEach es X.env := by rfl) (hpl : (backTo pos (starEach es X.env)).any (·.1) = false := by rfl) :
    L2N.PMk X (.Call (.Name x p) (e :: es) [] pos) (tMkO c sp dvs ta) := fun pins s σ H Q I h => by
  obtain ⟨n0, q0, a0, b0, bm, m1, m2, m3, m4, m5, z0, z1, z2, z3, z5, hC, hbm⟩ := T.cls
  refine wpAny_Call_Name_kw (ld_glob I hg hm (PySem.W.callWith_K (h₀ := X.base) I.ok.mod.kin T.kC (thn (ha.run pos pins s σ H _ I h) fun us s1 ⟨vs, H1, I1, r1, hz, q1⟩ => ⟨I1.kIn, ?_⟩) he hpl) hdb)
  show wpAny _ _ (call (.ref c) us) _ _ _
  obtain ⟨h1, g1, d1, t1, os⟩ := s1
  have lz : h1.objs.size ≤ h1.objs.size + 1 := Nat.le_succ _
  have nn : H1 (h1.objs.size + 1) = none := I1.hok.fresh lz
  have hq := q1 (h1.objs.size + 1) nn
  have kk : ∀ b o, h1.get? b = some o → ((h1.push (PySem.W.kdv_tup us)).push (PySem.HandSPX.excO c h1.objs.size)).get? b = some o := fun b o e => Heap.get?_push_of_some _ (Heap.get?_push_of_some _ e)
  have hget : ((h1.push (PySem.W.kdv_tup us)).push (PySem.HandSPX.excO c h1.objs.size)).get? (h1.objs.size + 1) = some (PySem.HandSPX.excO c h1.objs.size) := by heap_get
  have I2 : Inv X pins σ (upd H1 (h1.objs.size + 1) (exo (h1.objs.size + 1) c none)) ⟨(h1.push (PySem.W.kdv_tup us)).push (PySem.HandSPX.excO c h1.objs.size), g1, d1, t1, os⟩ :=
    I1.laid (t' := t1) (a := h1.objs.size + 1) (o := exo (h1.objs.size + 1) c none) (h' := (h1.push (PySem.W.kdv_tup us)).push (PySem.HandSPX.excO c h1.objs.size)) kk lz (exo_ok hget)
  have r2 : Vals (V.ref (h1.objs.size + 1) :: (vs ++ dvs)) (Value.ref (h1.objs.size + 1) :: (us ++ is)) := .cons rfl (r1.append hd)
  have hl : (Value.ref (h1.objs.size + 1) :: us ++ is).length = ps.length := by
    rw [← F1.len _ _ _ _ hq]; exact r2.length.symm
  have lu : us.length ≤ sizeLine := by rw [← Paired.length r1, sizeLine_eq]; omega
  refine wpAny_call (PySem.HandSPX.call_own F.excBase_ValueError (fun Y => PySem.HandSPX.refsVE_contains Y bm hbm) (I1.kIn _ _ hC) (PySem.W.looks_findIn I1.kIn iC) (fun self => PySem.W.bind_fn I1.kIn self tI) lu
    (codeAny_mono (F1.run _ X.stack _ _ ⟨Value.ref (h1.objs.size + 1) :: us, []⟩ (Value.ref (h1.objs.size + 1) :: (us ++ is)) _ _ (fun _ _ _ => False) (hr.make c us []) (I2.env0.make c us []) (hb _ (Value.ref (h1.objs.size + 1) :: us) I2.kIn hl) r2 hq) fun r s2 hq' => ?_))
  cases r with
  | error er => exact hx pins σ _ _ er s2 I2 hq'
  | ok fl =>
    cases fl with
    | ret u =>
      obtain ⟨v, H2, os2, bare2, un2, hok2, rv, ev, d, fs, ea, ed, nd, q2⟩ := hq'
      subst ev
      obtain ⟨h2, g2, d2, t2, os'⟩ := s2
      exact ⟨rv, mk_endN (raises_own T.exC T.tyC) I1 lz kk un2 hok2 os2 bare2 ea ed nd q2⟩
    | next => exact hq'.elim
    | brk => exact hq'.elim
    | cont => exact hq'.elim
end
end DL

/-! ### raise, try over data -/
namespace DL
open PySem L2
section
variable {g : G} {Z F F' H H' : Hp} {W : WX} {σ : St} {ρ : Env} {st : S} {X : Cx} {e : Expr} {es : List Expr} {pos p : Pos} {a : Addr} {cls : Value} {d : Option Addr} {i : Option Nat}
theorem RelEx.mono {u : Value} {x : Ex} (s : Same F F') (h : RelEx g F u d x) : RelEx g F' u d x := by
  obtain ⟨h1, h2 | ⟨a, fs, h2, h3, h4, h5⟩⟩ := h
  · exact ⟨h1, .inl h2⟩
  · exact ⟨h1, .inr ⟨a, fs, h2, s _ _ h3, h4, h5.mono s⟩⟩
/-- values in a clause's suite: of the exception's fields, of locals -/
abbrev XM (α : Type) := Ex → Env → Option α
def tV {α β : Type} (g : G) (R : Hp → α → β → Prop) (i : Option Nat) (a : Addr) (cls : Value) (d : Option Addr) (m : XM α) : St → Hp → (β → Hp → Prop) → Prop := fun σ H Q => ∃ x ρ Z F st dv, RelEx g F cls d x ∧ Sim g Z st F H ∧ REnv g F σ ρ ∧ (∀ k, i = some k → σ[k]? = some (some (.ref a))) ∧ m x ρ = some dv ∧ Res g R Z F Q dv st
def XV (g : G) (X : Cx) (i : Option Nat) (a : Addr) (cls : Value) (d : Option Addr) (e : Expr) (m : XM D) : Prop := PE X e (tV g (RelD g) i a cls d m)
def XVs (g : G) (X : Cx) (i : Option Nat) (a : Addr) (cls : Value) (d : Option Addr) (es : List Expr) (m : XM (List D)) : Prop := PA X es (tV g (RelDs g) i a cls d m)
def xC (dv : D) : XM D := fun _ _ => some dv
def xF (c f : Str) : XM D := fun x _ => if x.c = c then (x.ns.zip x.vs).lookup f else none
def xN : XM (List D) := fun _ _ => some []
def xS (m : XM D) (ms : XM (List D)) : XM (List D) := fun x ρ => (m x ρ).bind fun y => (ms x ρ).map fun ys => y :: ys
def xT (ms : XM (List D)) : XM D := fun x ρ => (ms x ρ).bind fun ys => if ys.length ≤ 1000 then some (.tup ys) else none
theorem xv_cst {dv : D} {v : V} (h : PE X e (tC v)) (r : ∀ F, RelD g F dv v) : XV g X i a cls d e (xC dv) := PE.imp h fun σ H Q ⟨x, ρ, Z, F, st, y, rx, sim, env, sl, em, q⟩ => by
  cases (Option.some.inj em)
  exact q v F H (Same.refl _) sim (r F)
theorem lookup_relX {f : Str} : ∀ {ns : List Str} {vs : List D} {fs : List (Str × V)} {dv : D}, fs.map (·.1) = ns → RelDs g F vs (fs.map (·.2)) → (ns.zip vs).lookup f = some dv → ∃ v, fs.lookup f = some v ∧ RelD g F dv v
  | _, [], fs, dv, _, _, h => by rw [List.zip_nil_right] at h; cases h
  | _, y :: ys, [], dv, e, r, h => by obtain ⟨_, _, e2, _, _⟩ := r.cons_inv; cases e2
  | _, y :: ys, (n, u) :: fs, dv, e, r, h => by
    subst e
    obtain ⟨v, r', e2, r1, r2⟩ := r.cons_inv
    obtain ⟨rfl, rfl⟩ := List.cons.inj e2
    rw [List.map_cons, List.zip_cons_cons, List.lookup_cons] at h
    rw [List.lookup_cons]
    cases hb : f == n with
    | true => rw [hb] at h; cases (Option.some.inj h); exact ⟨_, rfl, r1⟩
    | false => rw [hb] at h; exact lookup_relX rfl r2 h
theorem xv_fld {c f n : Str} {k : Nat} {oe : Obj} {pn : List (Addr × Obj)} {p1 : Pos} (T : XfC X.K (g.cl c)) (hno : PySem.W.findIn X.K (.ref (g.cl c)) f = some none) (hz : Zc cls d oe) (hf : ∃ vs, oe.data = .fields vs) (hN : X.N[k]? = some n) (hv : Vis X.env.scope n)
    (hd : (n == ("__debug__" : Str)) = false := by decide) (hcd : (n == ("__classdict__" : Str)) = false := by decide) (hb : attributeBase (.Name n p1) f X.env (eval (.Name n p1) X.env) = eval (.Name n p1) X.env := by rfl) :
    XV g (X.suite a ((a, oe) :: pn)) (some k) a cls d (.Attribute (.Name n p1) f pos) (xF c f) :=
  PE.imp (pe_xf T hno hz hf (pe_var (X := X.suite a ((a, oe) :: pn)) hN hv hd hcd) hb) fun σ H Q ⟨x, ρ, Z, F, st, y, rx, sim, env, sl, em, q⟩ => by
    unfold xF at em
    split at em
    · rename_i hc
      obtain ⟨h1, ⟨h2, _⟩ | ⟨dd, fs, h2, h3, h4, h5⟩⟩ := rx
      · rw [h2] at em; cases em
      · obtain ⟨v, l, r⟩ := lookup_relX h4 h5 em
        exact ⟨_, sl k rfl, rfl, by rw [h1, hc], dd, fs, v, h2, sim.same _ _ h3, l, q v F H (Same.refl _) sim r⟩
    · cases em
theorem xvs_nil : XVs g X i a cls d [] xN := PA.imp pa_nil fun σ H Q ⟨x, ρ, Z, F, st, y, rx, sim, env, sl, em, q⟩ => by
  cases (Option.some.inj em)
  exact q [] F H (Same.refl _) sim .nil
theorem xvs_cons {m : XM D} {ms : XM (List D)} (h : XV g X i a cls d e m) (k : XVs g X i a cls d es ms) (hs : starEach (e :: es) X.env = (false, eval e X.env) :: starEach es X.env := by rfl) : XVs g X i a cls d (e :: es) (xS m ms) := PA.imp (pa_cons h k hs) fun σ H Q ⟨x, ρ, Z, F, st, y, rx, sim, env, sl, em, q⟩ => by
  obtain ⟨y1, e1, em⟩ := Option.bind_eq_some_iff.mp em
  obtain ⟨ys, e2, rfl⟩ := Option.map_eq_some_iff.mp em
  refine ⟨x, ρ, Z, F, st, y1, rx, sim, env, sl, e1, fun v F1 H1 s1 sim1 r1 => ?_⟩
  refine ⟨x, ρ, Z, F1, st, ys, rx.mono s1, sim1, env.mono s1, sl, e2, fun vs F2 H2 s2 sim2 r2 => ?_⟩
  exact q (v :: vs) F2 H2 (s1.trans s2) sim2 (.cons (r1.mono s2) r2)
theorem xv_tup {ms : XM (List D)} {x1} (h : XVs g X i a cls d es ms) : XV g X i a cls d (.Tuple es x1 pos) (xT ms) := PE.imp (pe_tup h) fun σ H Q ⟨x, ρ, Z, F, st, y, rx, sim, env, sl, em, q⟩ => by
  obtain ⟨ys, e1, em⟩ := Option.bind_eq_some_iff.mp em
  split at em
  · rename_i hl
    cases (Option.some.inj em)
    refine ⟨x, ρ, Z, F, st, ys, rx, sim, env, sl, e1, fun vs F1 H1 s1 sim1 r1 => ⟨by rw [r1.len]; exact Nat.le_trans hl (by decide), fun p np => ?_⟩⟩
    have s2 := same_upd (o := .tup vs) (sim1.free np).1
    exact q (.ref p) _ _ (s1.trans s2) (sim1.new np) (by unfold RelD; exact ⟨p, vs, rfl, .inl (.inl upd_same), r1.mono s2⟩)
  · cases em
/-- the one statement of a suite -/
def tSu (g : G) (i : Option Nat) (a : Addr) (cls : Value) (d : Option Addr) (f : Ex → Env → MS) : TS := fun D σ H => ∃ x ρ Z F st, RelEx g F cls d x ∧ Sim g Z st F H ∧ REnv g F σ ρ ∧ (∀ k, i = some k → σ[k]? = some (some (.ref a))) ∧ f x ρ st (ResF g Z F D) (fun _ _ => False)
def optM {α : Type} (o : Option α) (k : α → MS) : MS := fun s Q E => ∃ v, o = some v ∧ k v s Q E
theorem mono_optM {α : Type} {o : Option α} {k : α → MS} (h : ∀ v, Mono (k v)) : Mono (optM o k) := fun s Q Q' E E' hq he ⟨v, e, z⟩ => ⟨v, e, h v s Q Q' E E' hq he z⟩
def hset (j : Nat) (m : XM D) : Ex → Env → MS := fun x ρ => optM (m x ρ) fun y => pureM (.nx (ρ.set j (some y)))
def hret (m : XM D) : Ex → Env → MS := fun x ρ => optM (m x ρ) fun y => pureM (.rt y)
def MonoH (f : Ex → Env → MS) : Prop := ∀ x ρ, Mono (f x ρ)
theorem mono_hset {j : Nat} {m : XM D} : MonoH (hset j m) := fun _ _ => mono_optM fun _ => mono_pure _
theorem mono_hret {m : XM D} : MonoH (hret m) := fun _ _ => mono_optM fun _ => mono_pure _
theorem su_set {j : Nat} {y : Str} {m : XM D} {p' : Pos} (hN : X.N.Nodup) (hi : X.N[j]? = some y) (hx : Loc X.env.scope y) (h : XV g X i a cls d e m) (hs : swapsWith e (some (.Name y p')) pos.line X.env = pure false := by rfl)
    (hf : X.fn y = true ∨ X.env.scope.names.lookup y = some .local := by first | exact .inl rfl | exact .inr rfl | assumption) : PSs X [.Assign [.Name y p'] e pos] (tSu g i a cls d (hset j m)) :=
  pss_one (PS.imp (ps_set hN hi hx h hs hf) fun D σ H ⟨x, ρ, Z, F, st, rx, sim, env, sl, dv, em, q⟩ => ⟨x, ρ, Z, F, st, dv, rx, sim, env, sl, em, fun v F1 H1 s1 sim1 r1 => q _ F1 H1 s1 sim1 ((env.mono s1).set r1)⟩)
theorem su_ret {m : XM D} (h : XV g X i a cls d e m) : PSs X [.Return (some e) pos] (tSu g i a cls d (hret m)) :=
  pss_one (PS.imp (ps_ret h) fun D σ H ⟨x, ρ, Z, F, st, rx, sim, env, sl, dv, em, q⟩ => ⟨x, ρ, Z, F, st, dv, rx, sim, env, sl, em, fun v F1 H1 s1 sim1 r1 => q v F1 H1 s1 sim1 r1⟩)
/-! try -/
structure HD where
  c : Str
  i : Option Nat
  f : Ex → Env → MS
def clrE : Option Nat → Env → Env
  | none, ρ => ρ
  | some i, ρ => ρ.set i none
def clrF (i : Option Nat) : Fl → Fl
  | .nx ρ => .nx (clrE i ρ)
  | .rt y => .rt y
  | .bk ρ => .bk (clrE i ρ)
  | .ct ρ => .ct (clrE i ρ)
def okI : Option Nat → Env → Prop
  | none, _ => True
  | some i, ρ => i < ρ.length
def suM (h : HD) (x : Ex) (ρ : Env) : MS := fun s Q _ => okI h.i ρ ∧ h.f x (clrE h.i ρ) s (fun fl s' => Q (clrF h.i fl) s') (fun _ _ => False)
def hdl (sub : Str → Str → Option Bool) : List HD → Ex → Env → MS
  | [], x, ρ => raiseM (x, ρ)
  | h :: r, x, ρ => fun s Q E => ∃ b, sub x.c h.c = some b ∧ (if b = true then suM h x ρ s Q E else hdl sub r x ρ s Q E)
def tryS (sub : Str → Str → Option Bool) (m : Env → MS) (l : List HD) : Env → MS := fun ρ s Q E => m ρ s Q (fun x s' => hdl sub l x.1 x.2 s' Q E)
theorem mono_suM {h : HD} {x : Ex} (k : MonoH h.f) : Mono (suM h x ρ) := fun s Q Q' E E' hq _ ⟨o, z⟩ => ⟨o, k _ _ s _ _ _ _ (fun fl s' z => hq _ _ z) (fun _ _ z => z) z⟩
theorem mono_hdl {sub : Str → Str → Option Bool} : ∀ {l : List HD} {x : Ex} {ρ : Env}, (∀ h ∈ l, MonoH h.f) → Mono (hdl sub l x ρ)
  | [], x, ρ, _ => mono_raise _
  | h :: r, x, ρ, k => fun s Q Q' E E' hq he ⟨b, e, z⟩ => ⟨b, e, by
    cases b with
    | true => exact mono_suM (k h List.mem_cons_self) s Q Q' E E' hq he z
    | false => exact mono_hdl (fun h' m => k h' (List.mem_cons_of_mem _ m)) s Q Q' E E' hq he z⟩
theorem mono_tryS {sub : Str → Str → Option Bool} {m : Env → MS} {l : List HD} (h : ∀ ρ, Mono (m ρ)) (k : ∀ h ∈ l, MonoH h.f) : ∀ ρ, Mono (tryS sub m l ρ) := fun ρ s Q Q' E E' hq he z => h ρ s _ _ _ _ hq (fun x s' z => mono_hdl k s' Q Q' E E' hq he z) z
class MH (l : List HD) : Prop where
  mono : ∀ h ∈ l, MonoH h.f
class MHf (f : Ex → Env → MS) : Prop where
  mono : MonoH f
instance {j : Nat} {m : XM D} : MHf (hset j m) := ⟨mono_hset⟩
instance {m : XM D} : MHf (hret m) := ⟨mono_hret⟩
instance : MH [] := ⟨fun _ h => by cases h⟩
instance {c : Str} {i : Option Nat} {f : Ex → Env → MS} {l : List HD} [MHf f] [MH l] : MH (⟨c, i, f⟩ :: l) := ⟨fun h m => by
  rcases List.mem_cons.mp m with rfl | m
  · exact MHf.mono
  · exact MH.mono h m⟩
instance {sub : Str → Str → Option Bool} {m : Env → MS} {l : List HD} [MB m] [MH l] : MB (tryS sub m l) := ⟨mono_tryS MB.mono MH.mono⟩
def clzD (g : G) (h : HD) : Clz := ⟨.ref (g.cl h.c), h.i, fun a cls d => tSu g h.i a cls d h.f⟩
theorem renv_put {k : Option Nat} (h : REnv g F σ ρ) : REnv g F (putS k a σ) (clrE k ρ) := by
  cases k with
  | none => exact h
  | some k => exact h.none
theorem renv_clr {k : Option Nat} (h : REnv g F σ ρ) : REnv g F (clrS k σ) (clrE k ρ) := by
  cases k with
  | none => exact h
  | some k => exact h.none
theorem fs_try [Kd] {sub : Str → Str → Option Bool} {m : Env → MS} {l : List HD} {body : List Stmt} {h0 : ExceptHandler} {hds : List ExceptHandler} [MH l] (hs : X.stack = X.env :: X.outer) (hf : X.env.frame = some X.env.locals) (hN : X.N.Nodup) (tk : Takes X W)
    (hsub : ∀ c1 c2 b, sub c1 c2 = some b → PySem.W.exmOne X.K (.ref (g.cl c1)) (.ref (g.cl c2)) = some b)
    (hm : ∀ ρ, Mono (m ρ)) (hb : ∀ W pn xe, Takes (X.tr pn xe) W → PassesOwn (model X.prog X.w) X.A X.env xe → FB g (X.tr pn xe) W body m) (hh : ClzOk X (h0 :: hds) (l.map (clzD g))) :
    FS g X W (.Try body (h0 :: hds) [] [] pos) (tryS sub m l) := by
  refine ⟨PS.imp (ps_clz hs hf hN tk (fun W pn xe t po => (hb W pn xe t po).ps) hh) fun D σ H ⟨Z, F, st, ρ, E, N, q⟩ => ?_, mono_tryS hm MH.mono⟩
  refine ⟨Z, F, st, ρ, fun x ρ' s' => hdl sub l x ρ' s' (ResF g Z F D) (Err E), ⟨N.sim, N.env, fun x ρ' st' F' H' u d σ' s1 sim env rx z => ?_⟩, q⟩
  have key : ∀ {l : List HD}, (∀ h ∈ l, MonoH h.f) → hdl sub l x ρ' st' (ResF g Z F D) (Err E) → wClz X.K W D (l.map (clzD g)) u d σ' H' := by
    intro l
    induction l with
    | nil => exact fun _ z => N.lk x ρ' st' F' H' u d σ' s1 sim env rx z
    | cons h r ih =>
      rintro k ⟨b, eb, z⟩
      have hx := hsub _ _ _ eb
      rw [← rx.1] at hx
      cases b with
      | false => exact ⟨false, hx, fun c => (by cases c), fun _ => ih (fun h' m => k h' (List.mem_cons_of_mem _ m)) z⟩
      | true =>
        refine ⟨true, hx, fun _ a na => ?_, fun c => (by cases c)⟩
        obtain ⟨ho, z⟩ := z
        refine ⟨x, clrE h.i ρ', Z, F', st', rx, sim, renv_put env, fun n e => ?_, k h List.mem_cons_self _ _ _ _ _ _ _ (fun fl s2 y => ?_) (fun _ _ y => y) z⟩
        · show (putS h.i a σ')[n]? = _
          rw [show h.i = some n from e]
          have hl : n < σ'.length := by rw [env.1]; rw [show h.i = some n from e] at ho; exact ho
          show (σ'.set n (some (.ref a)))[n]? = _
          rw [List.getElem?_set_self hl]
        · cases fl with
          | nx ρ2 => exact fun σ2 F2 H2 s3 sim2 env2 => y _ F2 H2 (s1.trans s3) sim2 (renv_clr env2)
          | rt v => exact fun v F2 H2 s3 sim2 r2 => y v F2 H2 (s1.trans s3) sim2 r2
          | bk ρ2 => exact fun σ2 F2 H2 s3 sim2 env2 => y _ F2 H2 (s1.trans s3) sim2 (renv_clr env2)
          | ct ρ2 => exact fun σ2 F2 H2 s3 sim2 env2 => y _ F2 H2 (s1.trans s3) sim2 (renv_clr env2)
  exact key MH.mono z
/-! raise -/
def raiseS (c : Str) (ns : List Str) (m : Env → M Ex (List D)) : Env → MS := fun ρ => bindM (up ρ (m ρ)) fun ds => if ds.length = ns.length then raiseM (⟨c, ns.reverse, ds.reverse⟩, ρ) else failM
theorem mono_raiseS {c : Str} {ns : List Str} {m : Env → M Ex (List D)} (h : ∀ ρ, Mono (m ρ)) : ∀ ρ, Mono (raiseS c ns m ρ) := fun ρ => mono_bind (mono_up (h ρ)) fun _ => mono_ite (mono_raise _) mono_fail
instance {c : Str} {ns : List Str} {m : Env → M Ex (List D)} [MB m] : MB (raiseS c ns m) := ⟨mono_raiseS MB.mono⟩
def spX (C : Addr) (ns : List Str) : Sp := fun vs H Q _ => ∃ a ws, vs = .ref a :: ws ∧ ws.length = ns.length ∧ H a = some (exo a C none) ∧ ∀ dx, H dx = none → dx ≠ a → Q .non (upd (upd H dx (exd dx (ns.zip ws).reverse)) a (exo a C (some dx)))
theorem heap_x {H : Hp} {a d : Addr} {o1 o2 o3 o4 : HO} (na : H a = none) (hd : d ≠ a) : upd (del (upd (upd (upd H a o1) d o2) a o3) a) d o4 = upd H d o4 := by
  funext b
  by_cases e : b = d
  · subst e; rw [upd_same, upd_same]
  · rw [upd_ne e, upd_ne e]
    by_cases q : b = a
    · subst q; rw [del_same, na]
    · rw [del_ne q, upd_ne q, upd_ne e, upd_ne q]
theorem RelDs.rev : ∀ {ds : List D} {vs : List V}, RelDs g F ds vs → RelDs g F ds.reverse vs.reverse
  | [], _, h => by rw [h.nil_inv]; exact .nil
  | x :: ds, _, h => by
    obtain ⟨v, r, e, h1, h2⟩ := h.cons_inv
    rw [e, List.reverse_cons, List.reverse_cons]
    exact h2.rev.append (.one h1)
theorem fs_raise [Kd] {CX : CXT} {c : Str} {ns : List Str} {fI : Addr} {k : Nat} {fd : FuncData} {ps : List Str} {m : Env → M Ex (List D)} {pos' : Pos} (hK : X.K = g.K) (T : OexC g.K (g.cl c)) (iC : PySem.W.findIn g.K (.ref (g.cl c)) "__init__" = some (some (.ref fI))) (tI : PySem.W.typeIn g.K (.ref fI) = some (.type "function"))
    (F1 : FnOk X.prog X.w X.K X.mg X.base CX k fI fd ps (spX (g.cl c) ns)) (hr : Room (k + 1) X.A) (hb : Binds X.K fd ps []) (hx : Passes CX X (fun _ _ _ => False)) (hc : X.calm = true) (tk : Takes X W) (hg : Gl X c) (hm : X.mg c = some (.ref (g.cl c))) (hl : ns.length ≤ 900) (ha : FA g X W (e :: es) m)
    (hdb : (c == ("__debug__" : Str)) = false := by decide) (he : starEach (e :: es) X.env = (false, eval e X.env) :: starEach es X.env := by rfl) (hpl : (backTo pos (starEach es X.env)).any (·.1) = false := by rfl) :
    FS g X W (.Raise (some (.Call (.Name c p) (e :: es) [] pos)) none pos') (raiseS c ns m) := by
  rw [← hK] at T iC tI
  refine ⟨PS.imp (raiseB hc tk (pmkN_oex T iC tI F1 hr hb .nil hx hg hm ha.pa hdb he hpl)) fun D σ H ⟨Z, F, st, ρ, E, N, q⟩ => ?_, mono_raiseS ha.mono⟩
  refine tS.go (R1 := RelDs g) N (ha.mono ρ) (fun _ => mono_ite (mono_raise _) mono_fail) q fun ds vs F st H1 e N r q => ?_
  by_cases hn : ds.length = ns.length
  · rw [if_pos hn] at q
    refine ⟨by rw [r.len, hn]; omega, fun a na => ⟨a, vs, by rw [List.append_nil], r.len.trans hn, upd_same, fun dx nd hd => ⟨rfl, dx, _, upd_same, by rw [upd_ne hd, upd_same], by rw [upd_ne hd] at nd; exact nd, ?_⟩⟩⟩
    rw [upd_ne hd] at nd
    rw [heap_x na hd]
    have s2 := same_upd (o := .xd (ns.zip vs).reverse) (N.sim.free nd).1
    have hlv : vs.length = ns.length := r.len.trans hn
    refine N.lk _ _ _ _ _ _ _ _ s2 (N.sim.new nd) (N.env.mono s2) ⟨rfl, .inr ⟨dx, _, rfl, upd_same, ?_, ?_⟩⟩ q
    · rw [List.map_reverse, List.map_fst_zip (Nat.le_of_eq hlv.symm)]
    · rw [List.map_reverse, List.map_snd_zip (Nat.le_of_eq hlv)]
      exact (r.mono s2).rev
  · rw [if_neg hn] at q
    exact q.elim
/-- B.__init__(self, ..), B an own class over ValueError without an __init__ -/
theorem pe_oinit {Bc : Addr} {x : Str} {ta : TA} {p1 p2 : Pos} {pl : Sem Bool} (hg : Gl X x) (hm : X.mg x = some (.ref Bc)) (r : ClX.CRead X.K Bc (.type "type")) (v : PySem.W.findCls X.K (.ref Bc) (.type "type") "__init__" = some (.val (.builtin "ValueError.__init__"))) (ha : PA X (e :: es) ta)
    (hdb : (x == ("__debug__" : Str)) = false := by decide)
    (hc : eval (.Call (.Attribute (.Name x p1) "__init__" p2) (e :: es) [] pos) X.env = (do
      let ov ← eval (.Name x p1) X.env
      standAt p2.atName
      let (f, first) ← holding [ov] (getMethod ov "__init__" pl)
      callWith pos f first (backTo pos (starEach (e :: es) X.env)) (backToKw pos (keywordEach [] X.env))) := by rfl)
    (he : starEach (e :: es) X.env = (false, eval e X.env) :: starEach es X.env := by rfl) (hpl : (backTo pos (starEach es X.env)).any (·.1) = false := by rfl) :
    PE X (.Call (.Attribute (.Name x p1) "__init__" p2) (e :: es) [] pos) (tVeI X.K ta) := by
  refine ⟨fun pins s σ H Q I h => PySem.W.methodCall_KW (ld_glob I hg hm ?_ hdb) hc⟩
  refine PySem.W.method_cls I.kIn r.ga (PySem.W.cls_value I.kIn r.rd v (by decide +kernel) ?_)
  show wpAny _ _ (callWith pos (Value.builtin "ValueError.__init__") [] (backTo pos (starEach (e :: es) X.env)) []) _ _ _
  refine PyProof.Rows.callWith_method1 (thn (ha.run pos pins _ σ H _ (I.tok _) h) fun us s1 ⟨vs, H1, I1, r1, a, C, ws, ev, hl, T, ea, q⟩ => ?_) he hpl
  subst ev
  cases r1 with
  | @cons _ u0 _ ur ra rw' =>
    cases (show u0 = Value.ref a from ra)
    exact oinit_ok T I1 ea (by rw [← Paired.length rw', sizeLine_eq]; omega) fun s' J => ⟨.non, H1, J, rfl, q⟩
end
end DL

/-! ### own exception classes: facts, their __init__, running -/
namespace DL
open PySem L2
section
def oexO (K : PySem.W.Frag) (C : Addr) : Bool := match K.lookup C with
  | some ⟨.type t, _, .cls cd, sl⟩ => decide (t = "type") && ((match cd.mro, sl.toList with
    | .ref C' :: bm, [_, _, _, _, some (.builtin n), _] => decide (C' = C) && (decide (n = "ValueError.__new__") && PySem.HandSPX.refsVE bm)
    | _, _ => false) && (cd.hasDict && !cd.hasDel))
  | _ => false
theorem oexO_ok {K : PySem.W.Frag} {C : Addr} (h : oexO K C = true) : ∃ nm q N bs bm sn sub ab col dd k0 k1 k2 k3 k5, K.lookup C = some (excClassObj nm q C N bs bm true sn sub ab col dd k0 k1 k2 k3 k5 "ValueError.__new__") ∧ PySem.HandSPX.refsVE bm = true := by
  unfold oexO at h
  split at h
  · rename_i t dd cd sl ho
    obtain ⟨h0, h⟩ := He.ba h
    obtain ⟨h1, hq⟩ := He.ba h
    obtain ⟨h2, h3⟩ := He.ba hq
    clear hq h
    split at h1
    · rename_i C' bm k0 k1 k2 k3 n k5 hm hs
      obtain ⟨a1, h1⟩ := He.ba h1
      obtain ⟨a2, a3⟩ := He.ba h1
      obtain ⟨nm, bs, mro, ns, qn, hd, sn, sub, ab, col, del⟩ := cd
      obtain ⟨sl⟩ := sl
      simp only at hm hs h2 h3
      have h3 : del = false := by simpa using h3
      have e0 := of_decide_eq_true h0
      have e1 := of_decide_eq_true a1
      have e2 := of_decide_eq_true a2
      subst hm hs h2 h3 e0 e1 e2
      exact ⟨_, _, _, _, _, _, _, _, _, _, _, _, _, _, _, ho, a3⟩
    · cases h1
  · cases h
def oexB (K : PySem.W.Frag) (C : Addr) : Bool := oexO K C && (decide (PySem.W.findIn K (.ref C) "__setattr__" = some (some (.builtin "object.__setattr__"))) && (decide (PySem.W.subIn K (.ref C) (.type "BaseException") = some true) && (decide (PySem.W.typeIn K (.ref C) = some (.type "type")) && PySem.W.keepIn K (.ref C))))
theorem oexB_ok {K : PySem.W.Frag} {C : Addr} (h : oexB K C = true) : OexC K C := by
  obtain ⟨h1, h⟩ := He.ba h
  obtain ⟨h2, h⟩ := He.ba h
  obtain ⟨h3, h⟩ := He.ba h
  obtain ⟨h4, h5⟩ := He.ba h
  exact ⟨oexO_ok h1, of_decide_eq_true h2, of_decide_eq_true h3, of_decide_eq_true h4, h5⟩
def vinB (K : PySem.W.Frag) (c : Str) : Bool := match PySem.W.findCls K (.ref (He.ga K c)) (.type "type") "__init__" with
  | some (.val (.builtin b)) => decide (b = "ValueError.__init__")
  | _ => false
theorem vinB_ok {K : PySem.W.Frag} {c : Str} (h : vinB K c = true) : PySem.W.findCls K (.ref (He.ga K c)) (.type "type") "__init__" = some (.val (.builtin "ValueError.__init__")) := by
  unfold vinB at h
  split at h
  · rename_i b e
    rw [e, of_decide_eq_true h]
  · cases h
/-- which exception a clause takes -/
def exmB (t : List ((Str × Str) × Bool)) (K : PySem.W.Frag) : Bool := t.all fun r => decide (PySem.W.exmOne K (.ref (He.ga K r.1.1)) (.ref (He.ga K r.1.2)) = some r.2)
def subT2 (t : List ((Str × Str) × Bool)) (a b : Str) : Option Bool := t.lookup (a, b)
theorem exmB_ok {t : List ((Str × Str) × Bool)} {K : PySem.W.Frag} (h : exmB t K = true) : ∀ c1 c2 b, subT2 t c1 c2 = some b → PySem.W.exmOne K (.ref (He.ga K c1)) (.ref (He.ga K c2)) = some b := fun c1 c2 b e => by
  have hm : ((c1, c2), b) ∈ t := by
    unfold subT2 at e
    clear h
    induction t with
    | nil => cases e
    | cons q r ih =>
      obtain ⟨q1, q2⟩ := q
      rw [List.lookup_cons] at e
      cases hb : (c1, c2) == q1 with
      | true => rw [hb] at e; cases (Option.some.inj e); rw [← eq_of_beq hb]; exact List.mem_cons_self
      | false => rw [hb] at e; exact List.mem_cons_of_mem _ (ih e)
  exact of_decide_eq_true (List.all_eq_true.mp h _ hm)
variable {P : Program} {w : World} {K : PySem.W.Frag} {mg : Str → Option Value} {base : Heap} {x qual : Str} {params : Arguments} {body : List Stmt} {scope : Scope} {f : Addr} {fd : FuncData} {N ps : List Str} {C : Addr} {f1 f2 m : Str}
theorem okX1 (F : FunD K x qual params body scope [] [] f fd) (S : FnScope N ps scope) (hp : ps.length = 2) (T : OexC K C) (n1 : NoAttr K C f1) (hst : ∀ v0 v1, L2.start N [v0, v1] = [some v0, some v1])
    (hb : ∀ (cdv : Value) (A : Around) (outer : List PySem.Env) (s : Shared) (H : Hp) (E : XK), PSs (cxOf CX0 P w K mg base N qual scope f cdv A outer s H E).nox body (tSeq (tDrop (tVeI K (tCons (tVar 0) (tCons (tC (.str m)) tNil)))) (tOst K f1 (tVar 0) (tVar 1)))) :
    FnOk P w K mg base CX0 1 f fd ps (spX C [f1]) := by
  refine okD0 F S (fun vs H Q E ⟨a, ws, e, hl, _⟩ => ?_) (fun cdv A outer s H vs Q E hr ⟨a, ws, e, hl, ea, q⟩ => ⟨_, hb cdv A outer s H E, ?_⟩)
  · subst e
    show ws.length + 1 = _
    rw [hl, hp]; rfl
  · subst e
    match ws, hl, q with
    | [y], _, q =>
      rw [hst]
      exact ⟨_, rfl, a, C, _, rfl, (show 1 ≤ 1000 by decide), T, ea, _, rfl, _, rfl, a, C, rfl, T, n1, .inl ⟨ea, fun dx nd hd => q dx nd hd⟩⟩
theorem heap_y {H : Hp} {a d : Addr} {o1 o2 o3 : HO} (hd : d ≠ a) : upd (upd (upd H d o1) a o2) d o3 = upd (upd H d o3) a o2 := by
  funext b
  by_cases e : b = d
  · subst e; rw [upd_same, upd_ne hd, upd_same]
  · rw [upd_ne e]
    by_cases q : b = a
    · subst q; rw [upd_same, upd_same]
    · rw [upd_ne q, upd_ne q, upd_ne e, upd_ne e]
theorem okX2 (F : FunD K x qual params body scope [] [] f fd) (S : FnScope N ps scope) (hp : ps.length = 3) (T : OexC K C) (n1 : NoAttr K C f1) (n2 : NoAttr K C f2) (hst : ∀ v0 v1 v2, L2.start N [v0, v1, v2] = [some v0, some v1, some v2])
    (hb : ∀ (cdv : Value) (A : Around) (outer : List PySem.Env) (s : Shared) (H : Hp) (E : XK), PSs (cxOf CX0 P w K mg base N qual scope f cdv A outer s H E).nox body (tSeq (tDrop (tVeI K (tCons (tVar 0) (tCons (tC (.str m)) tNil)))) (tSeq (tOst K f1 (tVar 0) (tVar 1)) (tOst K f2 (tVar 0) (tVar 2))))) :
    FnOk P w K mg base CX0 1 f fd ps (spX C [f1, f2]) := by
  refine okD0 F S (fun vs H Q E ⟨a, ws, e, hl, _⟩ => ?_) (fun cdv A outer s H vs Q E hr ⟨a, ws, e, hl, ea, q⟩ => ⟨_, hb cdv A outer s H E, ?_⟩)
  · subst e
    show ws.length + 1 = _
    rw [hl, hp]; rfl
  · subst e
    match ws, hl, q with
    | [y1, y2], _, q =>
      rw [hst]
      refine ⟨_, rfl, a, C, _, rfl, (show 1 ≤ 1000 by decide), T, ea, _, rfl, _, rfl, a, C, rfl, T, n1, .inl ⟨ea, fun dx nd hd => ?_⟩⟩
      refine ⟨_, rfl, _, rfl, a, C, rfl, T, n2, .inr ⟨dx, [(f1, y1)], upd_same, by rw [upd_ne hd, upd_same], (show 1 ≤ 900 by decide), ?_⟩⟩
      rw [heap_y hd]
      exact q dx nd hd
end
/-! running -/
section
variable {ρ : Env} {s : S} {QF : Fl → S → Prop} {EE : Ex × Env → S → Prop} {x : Ex} {sub : Str → Str → Option Bool} {m : Env → MS} {l : List HD} {h : HD} {as : Env → M Ex (List D)} {c f : Str} {ns : List Str}
theorem x_tryS : tryS sub m l ρ s QF EE = m ρ s QF (fun x s' => hdl sub l x.1 x.2 s' QF EE) := rfl
theorem x_hdl_nil : hdl sub [] x ρ s QF EE = EE (x, ρ) s := rfl
theorem x_hdl_yes (e : sub x.c h.c = some true) : hdl sub (h :: l) x ρ s QF EE = suM h x ρ s QF EE := by
  refine propext ⟨fun ⟨b, e1, z⟩ => ?_, fun z => ⟨true, e, by rw [if_pos rfl]; exact z⟩⟩
  rw [e] at e1
  cases (Option.some.inj e1)
  rw [if_pos rfl] at z
  exact z
theorem x_hdl_no (e : sub x.c h.c = some false) : hdl sub (h :: l) x ρ s QF EE = hdl sub l x ρ s QF EE := by
  refine propext ⟨fun ⟨b, e1, z⟩ => ?_, fun z => ⟨false, e, by rw [if_neg Bool.false_ne_true]; exact z⟩⟩
  rw [e] at e1
  cases (Option.some.inj e1)
  rw [if_neg Bool.false_ne_true] at z
  exact z
theorem x_suM {i : Option Nat} {fh : Ex → Env → MS} : suM ⟨c, i, fh⟩ x ρ s QF EE = (okI i ρ ∧ fh x (clrE i ρ) s (fun fl s' => QF (clrF i fl) s') (fun _ _ => False)) := rfl
theorem okI_none : okI none ρ = True := rfl
theorem okI_some {i : Nat} : okI (some i) ρ = (i < ρ.length) := rfl
theorem clrE_none : clrE none ρ = ρ := rfl
theorem clrE_some {i : Nat} : clrE (some i) ρ = ρ.set i none := rfl
theorem clrF_nx {i : Option Nat} : clrF i (.nx ρ) = .nx (clrE i ρ) := rfl
theorem clrF_rt {i : Option Nat} {d : D} : clrF i (.rt d) = .rt d := rfl
theorem x_hset {j : Nat} {mm : XM D} : hset j mm x ρ s QF EE = ∃ v, mm x ρ = some v ∧ QF (.nx (ρ.set j (some v))) s := rfl
theorem x_hret {mm : XM D} : hret mm x ρ s QF EE = ∃ v, mm x ρ = some v ∧ QF (.rt v) s := rfl
theorem x_xC {d : D} : xC d x ρ = some d := rfl
theorem x_xF {vs : List D} : xF c f ⟨c, ns, vs⟩ ρ = (ns.zip vs).lookup f := if_pos rfl
theorem x_xN : xN x ρ = some [] := rfl
theorem x_xS {mm : XM D} {ms : XM (List D)} : xS mm ms x ρ = (mm x ρ).bind fun y => (ms x ρ).map fun ys => y :: ys := rfl
theorem x_xT {ms : XM (List D)} : xT ms x ρ = (ms x ρ).bind fun ys => if ys.length ≤ 1000 then some (.tup ys) else none := rfl
theorem x_raiseS {c : Str} : raiseS c ns as ρ s QF EE = as ρ s (fun ds s' => (if ds.length = ns.length then raiseM (⟨c, ns.reverse, ds.reverse⟩, ρ) else failM : MS) s' QF EE) (fun x s' => EE (x, ρ) s') := rfl
theorem x_raise1 {n1 : Str} {a : Env → M Ex D} : raiseS c [n1] (argsC a argsN) ρ s QF EE = a ρ s (fun d s' => EE (⟨c, [n1], [d]⟩, ρ) s') (fun x s' => EE (x, ρ) s') := rfl
theorem x_raise2 {n1 n2 : Str} {a b : Env → M Ex D} : raiseS c [n1, n2] (argsC a (argsC b argsN)) ρ s QF EE = a ρ s (fun d s' => b ρ s' (fun d2 s2 => EE (⟨c, [n2, n1], [d2, d]⟩, ρ) s2) (fun x s' => EE (x, ρ) s')) (fun x s' => EE (x, ρ) s') := rfl
end
end DL

namespace DL
def runs_D23 := And.intro @x_tryS (And.intro @x_hdl_nil (And.intro @x_suM (And.intro @okI_none (And.intro @okI_some (And.intro @clrE_none (And.intro @clrE_some (And.intro @clrF_nx (And.intro @clrF_rt (And.intro @x_hset (And.intro @x_hret (And.intro @x_xC (And.intro @x_xF (And.intro @x_xN (And.intro @x_xS (And.intro @x_xT (And.intro @x_raise1 (@x_raise2)))))))))))))))))
end DL
/-! ### own special methods: x[y], y in x, len(x), x + y -/
namespace DL
open PySem L2
section
variable {g : G} {Z F F' H H' : Hp} {W : WX} {σ : St} {ρ : Env} {st : S} {X : Cx} {e e1 e2 : Expr} {pos p : Pos} {k : Nat} {f : Addr} {m : Fn} {c : Str} {a b : Env → M Ex D}
theorem run_calA [Kd] {A : Around} {pins : List (Addr × Obj)} {s : Shared} {Q : VK} {us : List Value} {vs : List V} (C : Cal g X.prog X.w X.K X.mg X.base k f [] m) (hr : Room k A) (ev : Env0 X.prog X.w X.K X.mg X.base A X.stack s H) (tk : Takes X W) (I : Inv X pins σ H s) (r : Vals vs us) (h : spK g m vs [] H Q (WE W σ)) :
    wpAny (model X.prog X.w) A (call (.ref f) us) (EP X pins σ Q) X.xe s := by
  refine wpAny_call (codeAny_mono (C A X.stack s H us [] vs [] _ _ hr ev r .nil h) fun r s' hq => ?_)
  cases r with
  | error e => exact passAt tk σ pins H s e s' I hq
  | ok fl =>
    cases fl with
    | ret u => exact I.after hq
    | next => exact False.elim hq
    | brk => exact False.elim hq
    | cont => exact False.elim hq
/-- a special method of the class c, written in the text -/
structure SpC (g : G) (c nm : Str) (f : Addr) : Prop where
  at_ : PySem.W.findIn g.K (.ref (g.cl c)) nm = some (some (.ref f))
  fn : PySem.W.isFn g.K (.ref f) = true
  fi : PySem.W.fnIn g.K f = true
/-- its run: x an instance of c -/
def spcM (c : Str) (m : Fn) (x : D) (ds : List D) : M Ex D := bindM (seeM fun st => isC st c x) fun _ => m (x :: ds) []
theorem mono_spcM {x : D} {ds : List D} (hM : MonoF m) : Mono (spcM c m x ds) := mono_bind (mono_see _) fun _ => hM _ _
def SpNow (g : G) (W : WX) (σ : St) (c : Str) (m : Fn) (x : V) (vs : List V) (H : Hp) (Q : VK) : Prop := ∃ Z F st ρ E dx ds, Now g W Z σ H F ρ st E ∧ RelD g F dx x ∧ RelDs g F ds vs ∧ spcM c m dx ds st (Res g (RelD g) Z F Q) (fun x s => E x ρ s)
theorem SpNow.sp {x : V} {vs : List V} {Q : VK} (h : SpNow g W σ c m x vs H Q) (hM : MonoF m) : (∃ o dx fs, x = .ref o ∧ H o = some (.ins (g.cl c) dx fs)) ∧ spK g m (x :: vs) [] H Q (WE W σ) := by
  obtain ⟨Z, F, st, ρ, E, dx, ds, N, rx, rs, _, h1, q⟩ := h
  exact ⟨isC_ok N.sim rx h1, Z, F, st, dx :: ds, [], N.sim, .cons rx rs, .nil, hM _ _ _ _ _ _ _ (fun _ _ z => z) (fun _ _ z => N.exc z) q⟩
theorem tX.spc2 {Q : VK} (ha : ∀ ρ, Mono (a ρ)) (hb : ∀ ρ, Mono (b ρ)) (hM : MonoF m) (h : tX g (RelD g) W (fun ρ => bindM (a ρ) fun x => bindM (b ρ) fun y => spcM c m x [y]) σ H Q) :
    tX g (RelD g) W a σ H fun x H1 => tX g (RelD g) W b σ H1 fun y H2 => SpNow g W σ c m x [y] H2 Q := by
  obtain ⟨Z, F, st, ρ, E, N, q⟩ := h
  refine tX.go (R1 := RelD g) N (ha ρ) (fun _ => mono_bind (hb ρ) fun _ => mono_spcM hM) q fun dx x F st H1 e N rx q => ?_
  refine tX.go (R1 := RelD g) N (hb ρ) (fun _ => mono_spcM hM) q fun dy y F2 st H2 e2 N ry q => ?_
  exact ⟨Z, F2, st, ρ, E, dx, [dy], N, rx.mono e2, .one ry, q⟩
theorem tX.spc2r {Q : VK} (ha : ∀ ρ, Mono (a ρ)) (hb : ∀ ρ, Mono (b ρ)) (hM : MonoF m) (h : tX g (RelD g) W (fun ρ => bindM (a ρ) fun y => bindM (b ρ) fun x => spcM c m x [y]) σ H Q) :
    tX g (RelD g) W a σ H fun y H1 => tX g (RelD g) W b σ H1 fun x H2 => SpNow g W σ c m x [y] H2 Q := by
  obtain ⟨Z, F, st, ρ, E, N, q⟩ := h
  refine tX.go (R1 := RelD g) N (ha ρ) (fun _ => mono_bind (hb ρ) fun _ => mono_spcM hM) q fun dx x F st H1 e N rx q => ?_
  refine tX.go (R1 := RelD g) N (hb ρ) (fun _ => mono_spcM hM) q fun dy y F2 st H2 e2 N ry q => ?_
  exact ⟨Z, F2, st, ρ, E, dy, [dx], N, ry, .one (rx.mono e2), q⟩
/-! x[y] -/
def ownIxE (c : Str) (m : Fn) (a b : Env → M Ex D) : Env → M Ex D := fun ρ => bindM (a ρ) fun x => bindM (b ρ) fun y => spcM c m x [y]
instance [MF m] [MB a] [MB b] : MB (ownIxE c m a b) := ⟨fun ρ => mono_bind (MB.mono ρ) fun _ => mono_bind (MB.mono ρ) fun _ => mono_spcM MF.mono⟩
theorem fe_ownIx [Kd] (C : Cal g X.prog X.w X.K X.mg X.base k f [] m) (hM : MonoF m) (hr : Room (k + 1) X.A) (tk : Takes X W) (hK : X.K = g.K) (T : SpC g c "__getitem__" f) (ha : FE g X W e1 a) (hb : FE g X W e2 b)
    (hs : ∀ o i, subscripted e2 true o i = runValue (.builtin "lifetime.subscript" ⟨[o, i], []⟩) := by intro o i; rfl) : FE g X W (.Subscript e1 e2 pos) (ownIxE c m a b) := by
  refine ⟨⟨fun pins s σ H Q I q => ?_⟩, fun ρ => mono_bind (ha.mono ρ) fun _ => mono_bind (hb.mono ρ) fun _ => mono_spcM hM⟩
  refine PyProof.Rows.Subscript_ (binT ha.pe hb.pe I (tX.spc2 ha.mono hb.mono hM q) fun v u s2 x y H2 I2 rx ry q => ?_)
  obtain ⟨⟨o, dx, fs, rfl, ho⟩, sp⟩ := q.sp hM
  cases (show v = Value.ref o from rx)
  obtain ⟨mA, O, rr, _⟩ := ins_get I2.hok ho
  obtain ⟨od, J, _⟩ := O.look
  obtain ⟨fm, hF⟩ := I2.fr
  refine PySem.W.sub_K hF I2.ok.mod.kin J (by rw [hK]; exact T.at_) (by rw [hK]; exact T.fi) (by rw [hK]; exact T.fn) ?_ (hs _ _)
  exact run_calA (us := [.ref o, u]) (vs := [.ref o, y]) C hr.in1 I2.env0.in1 tk I2 (.cons rfl (.cons ry .nil)) sp
/-! y in x -/
def ownInE (c : Str) (m : Fn) (neg : Bool) (a b : Env → M Ex D) : Env → M Ex D := fun ρ => bindM (a ρ) fun y => bindM (b ρ) fun x => bindM (spcM c m x [y]) fun r => bindM (asB r) fun k => pureM (.bl (k ^^ neg))
theorem mono_ownIn {neg : Bool} (hM : MonoF m) (ha : ∀ ρ, Mono (a ρ)) (hb : ∀ ρ, Mono (b ρ)) : ∀ ρ, Mono (ownInE c m neg a b ρ) := fun ρ => mono_bind (ha ρ) fun _ => mono_bind (hb ρ) fun _ => mono_bind (mono_spcM hM) fun r => mono_bind (mono_asB r) fun _ => mono_pure _
instance {neg : Bool} [MF m] [MB a] [MB b] : MB (ownInE c m neg a b) := ⟨mono_ownIn MF.mono MB.mono MB.mono⟩
theorem tX.ownIn {neg : Bool} {Q : VK} (ha : ∀ ρ, Mono (a ρ)) (hb : ∀ ρ, Mono (b ρ)) (hM : MonoF m) (h : tX g (RelD g) W (ownInE c m neg a b) σ H Q) :
    tX g (RelD g) W a σ H fun y H1 => tX g (RelD g) W b σ H1 fun x H2 => SpNow g W σ c m x [y] H2 (fun r H3 => ∃ k, r = .bl k ∧ Q (.bl (k ^^ neg)) H3) := by
  obtain ⟨Z, F, st, ρ, E, N, q⟩ := h
  have mk : ∀ r, Mono (bindM (asB r) fun k => pureM (D.bl (k ^^ neg)) : M Ex D) := fun r => mono_bind (mono_asB r) fun _ => mono_pure _
  refine tX.go (R1 := RelD g) N (ha ρ) (fun _ => mono_bind (hb ρ) fun _ => mono_bind (mono_spcM hM) mk) q fun dx x F st H1 e N rx q => ?_
  refine tX.go (R1 := RelD g) N (hb ρ) (fun _ => mono_bind (mono_spcM hM) mk) q fun dy y F2 st H2 e2 N ry q => ?_
  refine ⟨Z, F2, st, ρ, E, dy, [dx], N, ry, .one (rx.mono e2), mono_spcM hM _ _ _ _ _ (fun r s1 z v F' H' e sim' rv => ?_) (fun _ _ z => z) q⟩
  obtain ⟨k, rfl, z⟩ := asB_inv z
  unfold RelD at rv
  exact ⟨k, rv, z (.bl (k ^^ neg)) F' H' e sim' relD_bl⟩
theorem run_in [Kd] {pins : List (Addr × Obj)} {s : Shared} {Q : VK} {x y : V} {v u : Value} (C : Cal g X.prog X.w X.K X.mg X.base k f [] m) (hM : MonoF m) (hr : Room k X.A) (tk : Takes X W) (hK : X.K = g.K) (T : SpC g c "__contains__" f) (I : Inv X pins σ H s) (rx : RelV x v) (ry : RelV y u) {neg : Bool}
    (q : SpNow g W σ c m x [y] H (fun r H3 => ∃ k, r = .bl k ∧ Q (.bl (k ^^ neg)) H3)) : wpAny (model X.prog X.w) X.A (compareOp (if neg = true then .NotIn else .In) u v) (fun r s' => ∃ k H', r = .bool k ∧ Inv X pins σ H' s' ∧ Q (.bl k) H') X.xe s := by
  obtain ⟨⟨o, dx, fs, rfl, ho⟩, sp⟩ := q.sp hM
  cases (show v = Value.ref o from rx)
  obtain ⟨mA, O, rr, _⟩ := ins_get I.hok ho
  obtain ⟨od, J, _⟩ := O.look
  obtain ⟨fm, hF⟩ := I.fr
  have go := run_calA (us := [.ref o, u]) (vs := [.ref o, y]) C hr I.env0 tk I (.cons rfl (.cons ry .nil)) sp
  cases neg with
  | false =>
    rw [if_neg Bool.false_ne_true]
    refine PySem.W.in_K hF I.ok.mod.kin J (by rw [hK]; exact T.at_) (by rw [hK]; exact T.fn) (wpAny_mono go (fun r s' ⟨z, H', I', rz, k, ek, qz⟩ => ?_) fun _ _ z => z)
    subst ek
    cases (show r = Value.bool k from rz)
    exact wpAny_truthy_bool ⟨k, H', rfl, I', by simpa using qz⟩
  | true =>
    rw [if_pos rfl]
    refine PySem.W.notIn_K hF I.ok.mod.kin J (by rw [hK]; exact T.at_) (by rw [hK]; exact T.fn) (wpAny_mono go (fun r s' ⟨z, H', I', rz, k, ek, qz⟩ => ?_) fun _ _ z => z)
    subst ek
    cases (show r = Value.bool k from rz)
    exact wpAny_truthy_bool ⟨!k, H', rfl, I', by simpa using qz⟩
theorem fe_ownIn [Kd] (C : Cal g X.prog X.w X.K X.mg X.base k f [] m) (hM : MonoF m) (hr : Room k X.A) (tk : Takes X W) (hK : X.K = g.K) (T : SpC g c "__contains__" f) (ha : FE g X W e1 a) (hb : FE g X W e2 b) (hm : behindInMarks .In e2 = false := by rfl) : FE g X W (.Compare e1 [.In] [e2] pos) (ownInE c m false a b) :=
  ⟨⟨fun pins s σ H Q I q => wpAny_Compare1 (binT ha.pe hb.pe I (tX.ownIn ha.mono hb.mono hM q) fun v u s2 y x H2 I2 ry rx q => thn (run_in C hM hr tk hK T I2 rx ry (neg := false) q) fun r s' ⟨k, H', e, I', z⟩ => ⟨.bl k, H', I', by rw [e]; rfl, z⟩) hm⟩, mono_ownIn hM ha.mono hb.mono⟩
theorem fe_ownNotIn [Kd] (C : Cal g X.prog X.w X.K X.mg X.base k f [] m) (hM : MonoF m) (hr : Room k X.A) (tk : Takes X W) (hK : X.K = g.K) (T : SpC g c "__contains__" f) (ha : FE g X W e1 a) (hb : FE g X W e2 b) (hm : behindInMarks .NotIn e2 = false := by rfl) : FE g X W (.Compare e1 [.NotIn] [e2] pos) (ownInE c m true a b) :=
  ⟨⟨fun pins s σ H Q I q => wpAny_Compare1 (binT ha.pe hb.pe I (tX.ownIn ha.mono hb.mono hM q) fun v u s2 y x H2 I2 ry rx q => thn (run_in C hM hr tk hK T I2 rx ry (neg := true) q) fun r s' ⟨k, H', e, I', z⟩ => ⟨.bl k, H', I', by rw [e]; rfl, z⟩) hm⟩, mono_ownIn hM ha.mono hb.mono⟩
theorem ft_ownIn [Kd] (C : Cal g X.prog X.w X.K X.mg X.base k f [] m) (hM : MonoF m) (hr : Room k X.A) (tk : Takes X W) (hK : X.K = g.K) (T : SpC g c "__contains__" f) (ha : FE g X W e1 a) (hb : FE g X W e2 b) (hm : behindInMarks .In e2 = false := by rfl) : FT g X W (.Compare e1 [.In] [e2] pos) (liftT (ownInE c m false a b)) := by
  refine ⟨⟨fun pins s σ H Q I h => ?_⟩, mono_liftT (mono_ownIn hM ha.mono hb.mono)⟩
  have q := tX.ownIn ha.mono hb.mono hM (tX.test (mono_ownIn hM ha.mono hb.mono) h)
  refine wpAny_isTrue_Compare1 (thn (ha.pe.run pins s σ H _ I q) fun v s1 ⟨x, H1, I1, r1, q1⟩ => thn (hb.pe.run pins s1 σ H1 _ I1 q1) fun u s2 ⟨y, H2, I2, r2, q2⟩ => thn (run_in (Q := fun x H' => ∃ k, x = .bl k ∧ Q k H') C hM hr tk hK T I2 r2 r1 (neg := false) q2) fun r s' ⟨k, H', e, I', z⟩ => ?_) hm
  obtain ⟨j, ej, z⟩ := z
  cases ej
  subst e
  exact wpAny_truthy_bool ⟨H', I', z⟩
theorem ft_ownNotIn [Kd] (C : Cal g X.prog X.w X.K X.mg X.base k f [] m) (hM : MonoF m) (hr : Room k X.A) (tk : Takes X W) (hK : X.K = g.K) (T : SpC g c "__contains__" f) (ha : FE g X W e1 a) (hb : FE g X W e2 b) (hm : behindInMarks .NotIn e2 = false := by rfl) : FT g X W (.Compare e1 [.NotIn] [e2] pos) (liftT (ownInE c m true a b)) := by
  refine ⟨⟨fun pins s σ H Q I h => ?_⟩, mono_liftT (mono_ownIn hM ha.mono hb.mono)⟩
  have q := tX.ownIn ha.mono hb.mono hM (tX.test (mono_ownIn hM ha.mono hb.mono) h)
  refine wpAny_isTrue_Compare1 (thn (ha.pe.run pins s σ H _ I q) fun v s1 ⟨x, H1, I1, r1, q1⟩ => thn (hb.pe.run pins s1 σ H1 _ I1 q1) fun u s2 ⟨y, H2, I2, r2, q2⟩ => thn (run_in (Q := fun x H' => ∃ k, x = .bl k ∧ Q k H') C hM hr tk hK T I2 r2 r1 (neg := true) q2) fun r s' ⟨k, H', e, I', z⟩ => ?_) hm
  obtain ⟨j, ej, z⟩ := z
  cases ej
  subst e
  exact wpAny_truthy_bool ⟨H', I', z⟩
/-! len(x) -/
def ownLenE (c : Str) (m : Fn) (a : Env → M Ex (List D)) : Env → M Ex D := fun ρ => bindM (a ρ) fun ds => bindM (seeM fun _ => one ds) fun x => bindM (spcM c m x []) fun r => bindM (asI r) fun i => bindM (needM (0 ≤ i ∧ i < 2 ^ 62)) fun _ => pureM (.int i)
variable {as : Env → M Ex (List D)}
theorem mono_ownLen (hM : MonoF m) (ha : ∀ ρ, Mono (as ρ)) : ∀ ρ, Mono (ownLenE c m as ρ) := fun ρ => mono_bind (ha ρ) fun _ => mono_bind (mono_see _) fun _ => mono_bind (mono_spcM hM) fun r => mono_bind (mono_asI r) fun _ => mono_bind (mono_need _) fun _ => mono_pure _
instance [MF m] [MB as] : MB (ownLenE c m as) := ⟨mono_ownLen MF.mono MB.mono⟩
theorem fe_ownLen [Kd] (C : Cal g X.prog X.w X.K X.mg X.base k f [] m) (hM : MonoF m) (hr : Room (k + 1) X.A) (tk : Takes X W) (hK : X.K = g.K) (T : SpC g c "__len__" f) (hg : Gl X "len") (hm : X.mg "len" = none) (ha : FA g X W [e] as)
    (he : starEach [e] X.env = (false, eval e X.env) :: starEach [] X.env := by rfl) (hpl : (backTo pos (starEach [] X.env)).any (·.1) = false := by rfl) : FE g X W (.Call (.Name "len" p) [e] [] pos) (ownLenE c m as) := by
  refine ⟨⟨fun pins s σ H Q I ⟨Z, F, st, ρ, E, N, q⟩ => ?_⟩, mono_ownLen hM ha.mono⟩
  refine wpAny_Call_Name_kw (ld_blt I hg hm PySem.boot_len ?_ (by decide) (by decide))
  have mk : ∀ r, Mono (bindM (asI r) fun i => bindM (needM (0 ≤ i ∧ i < 2 ^ 62)) fun _ => pureM (.int i) : M Ex D) := fun r => mono_bind (mono_asI r) fun _ => mono_bind (mono_need _) fun _ => mono_pure _
  refine PyProof.Rows.callWith_builtin1 (thn (ha.pa.run pos pins s σ H _ I (tX.go (R1 := RelDs g) (P := fun vs H1 => ∃ x, vs = [x] ∧ SpNow g W σ c m x [] H1 (fun r H3 => ∃ i : Int, r = .int i ∧ (0 ≤ i ∧ i < 2 ^ 62) ∧ Q (.int i) H3)) N (ha.mono ρ) (fun _ => mono_bind (mono_see _) fun _ => mono_bind (mono_spcM hM) mk) q fun ds vs F st H1 e N rs q => ?_)) fun us s1 ⟨vs, H1, I1, r1, x, ev, q1⟩ => ?_) he hpl
  · obtain ⟨d, hd, q⟩ := q
    cases one_inv hd
    obtain ⟨v, vs', rfl, rv, r2⟩ := rs.cons_inv
    rw [r2.nil_inv]
    refine ⟨v, rfl, Z, F, st, ρ, E, d, [], N, rv, .nil, mono_spcM hM _ _ _ _ _ (fun r s1 z v F' H' e sim' rv => ?_) (fun _ _ z => z) q⟩
    obtain ⟨i, rfl, hi, z⟩ := asI_inv z
    unfold RelD at rv
    exact ⟨i, rv, hi, z (.int i) F' H' e sim' relD_int⟩
  · subst ev
    obtain ⟨u, rfl, ru⟩ := r1.one
    obtain ⟨⟨o, dx, fs, rfl, ho⟩, sp⟩ := q1.sp hM
    cases (show u = Value.ref o from ru)
    obtain ⟨mA, O, rr, _⟩ := ins_get I1.hok ho
    obtain ⟨od, J, _⟩ := O.look
    obtain ⟨fm, hF⟩ := I1.fr
    refine PySem.W.len_K hF I1.ok.mod.kin J (by rw [hK]; exact T.at_) (by rw [hK]; exact T.fn) (wpAny_mono (run_calA (us := [.ref o]) (vs := [.ref o]) C hr.in1 I1.env0.in1 tk I1 (.cons rfl .nil) sp) (fun r s' ⟨z, H', I', rz, i, ei, hi, qz⟩ => ?_) fun _ _ z => z)
    subst ei
    obtain ⟨t, et⟩ := (show ∃ t, r = Value.int i t from rz)
    subst et
    exact ⟨⟨hi.1, by omega⟩, .int i, H', I'.tok _, ⟨_, rfl⟩, qz⟩
/-! running -/
variable {s : S} {Q : D → S → Prop} {E : Ex → S → Prop} {x : D} {ds : List D}
theorem x_spcM : spcM c m x ds s Q E = ∃ v, isC s c x = some v ∧ m (x :: ds) [] s Q E := rfl
theorem x_ownIxE : ownIxE c m a b ρ s Q E = a ρ s (fun x s1 => b ρ s1 (fun y s2 => spcM c m x [y] s2 Q E) E) E := rfl
theorem x_ownInE {neg : Bool} : ownInE c m neg a b ρ s Q E = a ρ s (fun y s1 => b ρ s1 (fun x s2 => spcM c m x [y] s2 (fun r s3 => asB r s3 (fun k s4 => Q (.bl (k ^^ neg)) s4) E) E) E) E := rfl
theorem x_ownLenE : ownLenE c m as ρ s Q E = as ρ s (fun ds s1 => ∃ v, one ds = some v ∧ spcM c m v [] s1 (fun r s2 => asI r s2 (fun i s3 => (0 ≤ i ∧ i < 2 ^ 62) ∧ Q (.int i) s3) E) E) E := rfl
end
end DL

namespace DL
def runs_D24 := And.intro @x_spcM (And.intro @x_ownIxE (And.intro @x_ownInE (@x_ownLenE)))
end DL
/-! ### x + y by an own __add__, y an instance of another class -/
namespace DL
open PySem L2
section
open PySem.W
theorem obj_add : typeLookup (.type "object") (PySem.dunder "add") = pure none := by rw [typeLookup_type, builtinLookup_eq_fast]; kernel_rfl
theorem obj_radd : typeLookup (.type "object") (dunderR "add") = pure none := by rw [typeLookup_type, builtinLookup_eq_fast]; kernel_rfl
def noAdd (K : Frag) (C : Addr) : Bool := match clsIn K C with
  | some cd => (match cd.mro with
    | [.ref a, .type n] => decide (a = C) && decide (n = "object")
    | _ => false) && (decide (findIn K (.ref C) (PySem.dunder "add") = some none) && decide (findIn K (.ref C) (dunderR "add") = some none))
  | none => false
theorem fills_no {M : Model} {h : Heap} {K : Frag} {C : Addr} (X : K.In h) (hn : noAdd K C = true) : Looks M h (fillsNumberSlot (.ref C) "add") false := by
  unfold noAdd at hn
  split at hn
  · rename_i cd hc
    obtain ⟨h1, hn⟩ := He.ba hn
    obtain ⟨h2, h3⟩ := He.ba hn
    have h2 := of_decide_eq_true h2
    have h3 := of_decide_eq_true h3
    split at h1
    · rename_i a n hm
      obtain ⟨e1, e2⟩ := He.ba h1
      have e1 := of_decide_eq_true e1
      have e2 := of_decide_eq_true e2
      subst e1 e2
      intro A Q E s k q
      unfold fillsNumberSlot
      refine wpAny_bind ((looks_clsIn X hc).andThen (f := fun cd => pure cd.mro) .now A _ E s k ?_)
      rw [hm, List.anyM_cons]
      refine wpAny_bind ?_
      show wpAny M A (List.anyM _ [PySem.dunder "add", dunderR "add"]) _ _ _
      rw [List.anyM_cons]
      refine wpAny_bind (wpAny_bind (looks_findIn X h2 A _ E s k ?_))
      dsimp only
      refine wpAny_pure ?_
      rw [if_neg Bool.false_ne_true, List.anyM_cons]
      refine wpAny_bind (wpAny_bind (looks_findIn X h3 A _ E s k ?_))
      dsimp only
      refine wpAny_pure ?_
      rw [if_neg Bool.false_ne_true, List.anyM_nil]
      refine wpAny_pure ?_
      rw [if_neg Bool.false_ne_true, List.anyM_cons]
      refine wpAny_bind ?_
      dsimp only
      rw [obj_add, obj_radd]
      refine wpAny_bind (wpAny_pure ?_)
      refine wpAny_bind (wpAny_pure ?_)
      refine wpAny_pure ?_
      rw [if_neg (by decide), List.anyM_nil]
      exact wpAny_pure q
    · cases h1
  · cases hn
theorem binop_two {prog : Program} {w : World} {A : Around} {E : Value → Shared → Prop} {s : Shared} {K : Frag} {x C C' L f : Addr} {h₀ : Heap} {m : Str → Option Value} {ox : Obj} {od : Option Obj} {b : Value} {Q : Value → Shared → Prop} (F : PyProof.Rows.Fr h₀ L s.heap m) (X₀ : K.In h₀) (I : InstAt s.heap x ox C od) (hb : Looks (model prog w) s.heap (typeOf b) (.ref C')) (hne : C ≠ C') (hc : selfFirst K C = true)
    (hs : findIn K (.ref C) "__add__" = some (some (.ref f))) (hf : isFn K (.ref f) = true) (hn : noAdd K C' = true)
    (h : wpAny (model prog w) A (call (.ref f) [.ref x, b]) (CmpBack Q) E s) : wpAny (model prog w) A (binaryOp .Add (.ref x) b) Q E s := by
  have X := X₀.keeps F.keep
  obtain ⟨cd, hcd, hm⟩ := any_some hc
  obtain ⟨rest, hm⟩ : ∃ rest, cd.mro = .ref C :: rest := by
    cases q : cd.mro with
    | nil => rw [q] at hm; cases hm
    | cons a r => rw [q] at hm; exact ⟨r, by rw [List.head?_cons] at hm; cases (beq_iff_eq.mp hm); rfl⟩
  unfold binaryOp
  refine wpAny_holding (wpAny_bind ?_)
  unfold binaryOp1
  have e1 : (Value.ref C == Value.ref C') = false := by
    rw [Bool.eq_false_iff]
    intro z
    exact hne (Value.ref.inj (beq_iff_eq.mp z))
  refine wpAny_bind (I.type.here (wpAny_bind (hb.here (wpAny_bind ((fills_K (nm := "add") X hcd hm hs).here ?_)))))
  simp only [e1, Bool.false_eq_true, if_false]
  refine wpAny_bind ((fills_no X hn).here ?_)
  simp only [Bool.and_false, Bool.false_eq_true, if_false, Bool.false_and]
  refine wpAny_bind (wpAny_pure ?_)
  simp only [Bool.false_eq_true, if_false, if_true]
  refine wpAny_bind (m := tryMethod (.ref x) _ b) ?_
  unfold tryMethod
  refine wpAny_bind (special_fn X I hs (beq_iff_eq.mp hf) (wpAny_mono h (fun v s' hv => ?_) fun _ _ e => e))
  cases v <;> first | exact hv.elim | exact wpAny_pure (wpAny_pure (wpAny_pure hv))
end
section
variable {g : G} {Z F F' H H' : Hp} {W : WX} {σ : St} {ρ : Env} {st : S} {X : Cx} {e e1 e2 : Expr} {pos p : Pos} {k : Nat} {f : Addr} {m : Fn} {c : Str} {a b : Env → M Ex D} {cs : List Str}
/-- x + y: x of the class c, y of one of cs -/
def ownAddE (c : Str) (cs : List Str) (m : Fn) (a b : Env → M Ex D) : Env → M Ex D := fun ρ => bindM (a ρ) fun x => bindM (b ρ) fun y => bindM (seeM fun st => (clsS st y).bind fun c' => if c' ∈ cs then some () else none) fun _ => spcM c m x [y]
theorem mono_ownAdd (hM : MonoF m) (ha : ∀ ρ, Mono (a ρ)) (hb : ∀ ρ, Mono (b ρ)) : ∀ ρ, Mono (ownAddE c cs m a b ρ) := fun ρ => mono_bind (ha ρ) fun _ => mono_bind (hb ρ) fun _ => mono_bind (mono_see _) fun _ => mono_spcM hM
instance [MF m] [MB a] [MB b] : MB (ownAddE c cs m a b) := ⟨mono_ownAdd MF.mono MB.mono MB.mono⟩
structure AddC (g : G) (c : Str) (cs : List Str) : Prop where
  first : PySem.W.selfFirst g.K (g.cl c) = true
  other : ∀ c' ∈ cs, g.cl c ≠ g.cl c' ∧ noAdd g.K (g.cl c') = true
theorem fe_ownAdd [Kd] (C : Cal g X.prog X.w X.K X.mg X.base k f [] m) (hM : MonoF m) (hr : Room k X.A) (tk : Takes X W) (hK : X.K = g.K) (T : SpC g c "__add__" f) {ow : List Str} (O : OwnTy g ow) (hsub : ∀ c' ∈ cs, c' ∈ ow) (T2 : AddC g c cs) (ha : FE g X W e1 a) (hb : FE g X W e2 b) : FE g X W (.BinOp e1 .Add e2 pos) (ownAddE c cs m a b) := by
  refine ⟨⟨fun pins s σ H Q I ⟨Z, F, st, ρ, E, N, q⟩ => ?_⟩, mono_ownAdd hM ha.mono hb.mono⟩
  have q : tX g (RelD g) W a σ H fun x H1 => tX g (RelD g) W b σ H1 fun y H2 => SpNow g W σ c m x [y] H2 Q ∧ ∃ c' o dx fs, c' ∈ cs ∧ y = .ref o ∧ H2 o = some (.ins (g.cl c') dx fs) := by
    refine tX.go (R1 := RelD g) N (ha.mono ρ) (fun _ => mono_bind (hb.mono ρ) fun _ => mono_bind (mono_see _) fun _ => mono_spcM hM) q fun dx x F st H1 e N rx q => ?_
    refine tX.go (R1 := RelD g) N (hb.mono ρ) (fun _ => mono_bind (mono_see _) fun _ => mono_spcM hM) q fun dy y F2 st H2 e2 N ry q => ?_
    obtain ⟨_, h1, q⟩ := q
    obtain ⟨c', h2, h3⟩ := Option.bind_eq_some_iff.mp h1
    split at h3
    · rename_i hc
      obtain ⟨o, dd, fs, rfl, ho⟩ := N.sim.clsS ry h2
      exact ⟨⟨Z, F2, st, ρ, E, dx, [dy], N, rx.mono e2, .one ry, q⟩, c', o, dd, fs, hc, rfl, ho⟩
    · cases h3
  refine wpAny_BinOp (binT ha.pe hb.pe I q fun v u s2 x y H2 I2 rx ry q => ?_)
  obtain ⟨q, c', o', dx', fs', hc', rfl, ho'⟩ := q
  obtain ⟨⟨o, dx, fs, rfl, ho⟩, sp⟩ := q.sp hM
  cases (show v = Value.ref o from rx)
  cases (show u = Value.ref o' from ry)
  obtain ⟨mA, O1, rr, _⟩ := ins_get I2.hok ho
  obtain ⟨od, J, _⟩ := O1.look
  have ty := O.ins c' (hsub c' hc') ho'
  rw [← hK] at ty
  obtain ⟨P, Z2, p, _⟩ := kit_of I2 (x := V.ref o') (u := Value.ref o') rfl ty
  obtain ⟨fm, hF⟩ := I2.fr
  refine binop_two hF I2.ok.mod.kin J (Z2.ty _ _ I2.kIn p) (T2.other c' hc').1 (by rw [hK]; exact T2.first) (by rw [hK]; exact T.at_) (by rw [hK]; exact T.fn) (by rw [hK]; exact (T2.other c' hc').2) ?_
  refine wpAny_mono (run_calA (us := [.ref o, .ref o']) (vs := [.ref o, .ref o']) C hr I2.env0 tk I2 (.cons rfl (.cons rfl .nil)) sp) (fun r s' ⟨z, H', I', rz, qz⟩ => SlX.cmpback rz ⟨z, H', I', rz, qz⟩) fun _ _ z => z
def addB (c : Str) (cs : List Str) (K : PySem.W.Frag) : Bool := PySem.W.selfFirst K (He.ga K c) && cs.all fun c' => decide (He.ga K c ≠ He.ga K c') && noAdd K (He.ga K c')
theorem addB_ok {K : PySem.W.Frag} (h : addB c cs K = true) : AddC (gK K) c cs := by
  obtain ⟨h1, h2⟩ := He.ba h
  refine ⟨h1, fun c' hc => ?_⟩
  obtain ⟨h3, h4⟩ := He.ba (List.all_eq_true.mp h2 c' hc)
  exact ⟨of_decide_eq_true h3, h4⟩
variable {s : S} {Q : D → S → Prop} {E : Ex → S → Prop}
theorem x_ownAddE : ownAddE c cs m a b ρ s Q E = a ρ s (fun x s1 => b ρ s1 (fun y s2 => ∃ v, ((clsS s2 y).bind fun c' => if c' ∈ cs then some () else none) = some v ∧ spcM c m x [y] s2 Q E) E) E := rfl
end
end DL

namespace DL
def runs_D25 := @x_ownAddE
end DL
/-! ### more on lists; keys of the module's dicts -/
namespace DL
open PySem L2
section
variable {g : G} {Z F F' H H' : Hp} {W : WX} {σ : St} {ρ : Env} {st : S} {X : Cx} {e e1 e2 : Expr} {es : List Expr} {pos p : Pos}
/-! a local list or dict is let go, if it is one -/
def frz1 {ε : Type} : D → M ε D := fun d => match d with
  | .ref a => freeze (.ref a)
  | d => pureM d
theorem mono_frz1 {ε : Type} (d : D) : Mono (frz1 d : M ε D) := by
  unfold frz1
  split
  · exact mono_freeze _
  · exact mono_pure _
def frzS (i : Nat) : Env → MS := fun ρ => bindM (up ρ (var i ρ)) fun d => bindM (frz1 d) fun x => pureM (.nx (ρ.set i (some x)))
theorem mono_frzS (i : Nat) (ρ : Env) : Mono (frzS i ρ) := mono_bind (mono_up (mono_var i ρ)) fun d => mono_bind (mono_frz1 d) fun _ => mono_pure _
instance {i : Nat} : MB (frzS i) := ⟨mono_frzS i⟩
theorem fs_frz {s : Stmt} {b : Env → MS} (i : Nat) (h : FS g X W s b) : FS g X W s (seqS (frzS i) b) := fs_pre (fun Dn σ H ⟨Z, F, st, ρ, E, N, q⟩ => by
  obtain ⟨d, e, q⟩ := varO_inv q
  obtain ⟨v, e', rv⟩ := N.env.2 i _ e
  have same : ∀ {x : DL.D}, RelD g F x v → REnv g F σ (ρ.set i (some x)) := fun r => by
    have := N.env.set (i := i) r
    rw [list_set_same e'] at this
    exact this
  cases d with
  | ref a =>
    obtain ⟨a, o, x, ea, hm, ho, q⟩ := q
    cases ea
    obtain ⟨F', s, sim, r⟩ := N.sim.freeze hm ho
    refine q σ F' H s sim ?_
    unfold RelD at rv
    subst rv
    have := (N.env.mono s).set (i := i) r
    rw [list_set_same e'] at this
    exact this
  | non => exact q σ F H (Same.refl _) N.sim (same rv)
  | bl _ => exact q σ F H (Same.refl _) N.sim (same rv)
  | int _ => exact q σ F H (Same.refl _) N.sim (same rv)
  | str _ => exact q σ F H (Same.refl _) N.sim (same rv)
  | tup _ => exact q σ F H (Same.refl _) N.sim (same rv)
  | lst _ => exact q σ F H (Same.refl _) N.sim (same rv)
  | dic _ _ => exact q σ F H (Same.refl _) N.sim (same rv)
  | ins _ _ _ => exact q σ F H (Same.refl _) N.sim (same rv)
  | cls _ => exact q σ F H (Same.refl _) N.sim (same rv)
  | cst _ => exact q σ F H (Same.refl _) N.sim (same rv)
  | ty _ => exact q σ F H (Same.refl _) N.sim (same rv)
  | scr => exact q σ F H (Same.refl _) N.sim (same rv)) (mono_frzS i) h
/-! list(x), a new list that may change -/
def lcpO (ds : List D) (st : S) : Option (List D) := (one ds).bind fun d => seqD st d
def lcpM (a : Env → M Ex (List D)) : Env → M Ex D := fun ρ => bindM (a ρ) fun ds => bindM (seeM (lcpO ds)) fun xs => newM (.lst xs)
instance {a : Env → M Ex (List D)} [MB a] : MB (lcpM a) := ⟨fun ρ => mono_bind (MB.mono ρ) fun _ => mono_bind (mono_see _) fun _ => mono_new⟩
theorem fe_lcpM {a : Env → M Ex (List D)} (hK : X.K = g.K) (hg : Gl X "list") (hm : X.mg "list" = none) (ha : FA g X W (e :: es) a) (he : starEach (e :: es) X.env = (false, eval e X.env) :: starEach es X.env := by rfl) (hpl : (backTo pos (starEach es X.env)).any (·.1) = false := by rfl) :
    FE g X W (.Call (.Name "list" p) (e :: es) [] pos) (lcpM a) := by
  refine ⟨PE.imp (pe_callTy call_list_of hg hm (by decide +kernel) ha.pa (by decide) (by decide) he hpl) fun σ H Q ⟨Z, F, st, ρ, E, N, q⟩ => ?_, fun ρ => mono_bind (ha.mono ρ) fun _ => mono_bind (mono_see _) fun _ => mono_new⟩
  refine tX.go (R1 := RelDs g) N (ha.mono ρ) (fun _ => mono_bind (mono_see _) fun _ => mono_new) q fun ds vs F st H1 e N r q => ?_
  obtain ⟨xs, h1, q⟩ := q
  obtain ⟨d, h0, h1⟩ := Option.bind_eq_some_iff.mp h1
  cases one_inv h0
  obtain ⟨v, vs', rfl, r1, r2⟩ := r.cons_inv
  rw [r2.nil_inv]
  obtain ⟨a', us, rfl, hs, hr⟩ := N.sim.seq r1 h1
  rw [← hK] at hs
  refine ⟨a', us, rfl, hs, fun l nl => ?_⟩
  obtain ⟨nF, nS⟩ := N.sim.free nl
  exact q l nS _ F _ (Same.refl _) (N.sim.put nF (.inl nl) ⟨us, upd_same, hr⟩) relD_ref
/-! xs + ys, lists -/
def addLD : P2 := fun x y st => (lstOf st x).bind fun xs => (lstOf st y).bind fun ys => if xs.length + ys.length ≤ sizeLine then some (.lst (xs ++ ys)) else none
theorem lst_of {x : D} {v : V} {xs : List D} (sim : Sim g Z st F H) (r : RelD g F x v) (h : lstOf st x = some xs) : ∃ a vs, v = .ref a ∧ H a = some (.lst vs) ∧ RelDs g F xs vs := by
  unfold lstOf at h
  split at h
  · cases h
    unfold RelD at r
    obtain ⟨a, vs, rfl, h1, h2⟩ := r
    exact ⟨a, vs, rfl, sim.same _ _ h1, h2⟩
  · rename_i a
    unfold RelD at r
    obtain ⟨vs, h1, h2⟩ := sim.lst h
    exact ⟨a, vs, r, h1, h2⟩
  · cases h
theorem od_addL : OpD g X (binaryOp .Add) addLD := OpD.of fun dx dy Z F st d e => by
  obtain ⟨xs, h1, e⟩ := Option.bind_eq_some_iff.mp e
  obtain ⟨ys, h2, e⟩ := Option.bind_eq_some_iff.mp e
  split at e
  · rename_i hl
    cases e
    refine ⟨_, op_cat, fun x y H Q sim hx hy q => ?_⟩
    obtain ⟨a, vs, rfl, ha, r1⟩ := lst_of sim hx h1
    obtain ⟨b, us, rfl, hb, r2⟩ := lst_of sim hy h2
    refine ⟨a, b, vs, us, rfl, rfl, ha, hb, by rw [r1.len, r2.len]; exact hl, fun p np => ?_⟩
    have s := same_upd (o := .lst (vs ++ us)) (sim.free np).1
    exact q _ _ _ s (sim.new np) (by unfold RelD; exact ⟨p, _, rfl, upd_same, (r1.append r2).mono s⟩)
  · cases e
/-! xs[lo:hi], a list that may change -/
def sliceL (a : Env → M Ex D) (l h : Env → M Ex (Option Int)) : Env → M Ex D := fun ρ => bindM (a ρ) fun x => bindM (l ρ) fun lo => bindM (h ρ) fun hi => seeM fun st => (lstOf st x).map fun xs => .lst (cutD xs lo hi)
instance {a : Env → M Ex D} {l h : Env → M Ex (Option Int)} [MB a] [MB l] [MB h] : MB (sliceL a l h) := ⟨fun ρ => mono_bind (MB.mono ρ) fun _ => mono_bind (MB.mono ρ) fun _ => mono_bind (MB.mono ρ) fun _ => mono_see _⟩
def rSlL (g : G) : V → Option Int → Option Int → Hp → VK → Prop := fun x lo hi H Q => ∃ Z F st dx xs, Sim g Z st F H ∧ RelD g F dx x ∧ lstOf st dx = some xs ∧ Res g (RelD g) Z F Q (.lst (cutD xs lo hi)) st
theorem slr_slL (hK : X.K = g.K) : SlR X (rSlL g) := by
  intro pins s σ H x v vl vu lo hi sl Q I rx hsl hl hu ⟨Z, F, st, dx, xs, sim, hx, e, q⟩
  obtain ⟨a, vs, rfl, h1, r1⟩ := lst_of sim hx e
  refine sl_list pins s σ H _ v vl vu lo hi sl Q I rx hsl hl hu ⟨a, vs, rfl, SqL.of h1, fun p np => ?_⟩
  have s := same_upd (o := .lst (cutV vs lo hi)) (sim.free np).1
  exact q _ _ _ s (sim.new np) (by unfold RelD; exact ⟨p, _, rfl, upd_same, (r1.cut lo hi).mono s⟩)
theorem fe_sliceL {lo hi : Option Expr} {a : Env → M Ex D} {l h : Env → M Ex (Option Int)} {p2 : Pos} (hK : X.K = g.K) (ha : FE g X W e a) (hl : FO g X W lo l) (hh : FO g X W hi h) : FE g X W (.Subscript e (.Slice lo hi none p2) pos) (sliceL a l h) :=
  ⟨PE.imp (pe_slice (slr_slL hK) ha.pe hl.po hh.po) fun σ H Q ⟨Z, F, st, ρ, E, N, q⟩ => tX.go N (ha.mono ρ) (fun _ => mono_bind (hl.mono ρ) fun _ => mono_bind (hh.mono ρ) fun _ => mono_see _) q fun dx x F st H1 e N rx q =>
    tX.go (R1 := fun _ a b => a = b) N (hl.mono ρ) (fun _ => mono_bind (hh.mono ρ) fun _ => mono_see _) q fun lo lo' F2 st H2 e2 N el q => tX.go (R1 := fun _ a b => a = b) N (hh.mono ρ) (fun _ => mono_see _) q fun hi hi' F3 st H3 e3 N eh q => by
      subst el; subst eh
      obtain ⟨d, ed, q⟩ := q
      obtain ⟨xs, h1, rfl⟩ := Option.map_eq_some_iff.mp ed
      exact ⟨Z, F3, st, dx, xs, N.sim, (rx.mono e2).mono e3, h1, q⟩,
   fun ρ => mono_bind (ha.mono ρ) fun _ => mono_bind (hl.mono ρ) fun _ => mono_bind (hh.mono ρ) fun _ => mono_see _⟩
/-! x in a dict of the module -/
def keyS? : Value → Option Str
  | .str x _ => some x
  | _ => none
def tabK (K : PySem.W.Frag) (a : Addr) (t : List (Str × D)) : Bool := match K.lookup a with
  | some ⟨_, _, .dict es _, _⟩ => decide (es.toList.map (fun e => keyS? e.key) = t.map fun q => some q.1)
  | _ => false
theorem keys_find {es : List DictEntry} {ks : List Str} {z : Str} (h : es.map (fun e => keyS? e.key) = ks.map some) : (es.find? fun e => e.key.isStr z).isSome = decide (z ∈ ks) ∧ es.any (·.refKey) = false := by
  induction es generalizing ks with
  | nil =>
    cases ks with
    | nil => exact ⟨rfl, rfl⟩
    | cons _ _ => cases h
  | cons e es ih =>
    cases ks with
    | nil => cases h
    | cons k ks =>
      obtain ⟨h1, h2⟩ := List.cons.inj h
      obtain ⟨i1, i2⟩ := ih h2
      obtain ⟨hash, key, val⟩ := e
      cases key with
      | str x t =>
        have hx : x = k := Option.some.inj h1
        subst hx
        refine ⟨?_, ?_⟩
        · by_cases hz : x = z
          · subst hz
            rw [List.find?_cons_of_pos (by show (x == x) = true; simp)]
            simp
          · rw [List.find?_cons_of_neg (by show ¬ (x == z) = true; simpa using hz), i1]
            have : ¬ z = x := fun q => hz q.symm
            simp [this]
        · rw [List.any_cons, i2]; rfl
      | _ => cases h1
theorem ns_keys {K : PySem.W.Frag} {a : Addr} {t : List (Str × D)} {z : Str} (h : tabK K a t = true) : ∃ r, PySem.W.nsIn K a z = some r ∧ r.isSome = decide (z ∈ t.map (·.1)) := by
  unfold tabK at h
  split at h
  · rename_i es n sl ho
    have hk := keys_find (es := es.toList) (ks := t.map (·.1)) (z := z) ((of_decide_eq_true h).trans (by simp))
    unfold PySem.W.nsIn
    rw [ho]
    simp only
    cases e : es.toList.find? (fun e => e.key.isStr z) with
    | some x => exact ⟨_, rfl, by rw [← hk.1, e]; rfl⟩
    | none =>
      rw [hk.2]
      exact ⟨none, rfl, by rw [← hk.1, e]; rfl⟩
  · cases h
def tinD (c : Str) (t : List (Str × D)) (neg : Bool) : P2 := fun x y _ => match x, y with
  | .str z, .cst c' => if c' = c then some (.bl (decide (z ∈ t.map (·.1)) ^^ neg)) else none
  | _, _ => none
theorem tin_inv {c : Str} {t : List (Str × D)} {neg : Bool} {x y d : D} (h : tinD c t neg x y st = some d) : ∃ z, x = .str z ∧ y = .cst c ∧ d = .bl (decide (z ∈ t.map (·.1)) ^^ neg) := by
  unfold tinD at h
  split at h
  · split at h
    · rename_i e
      cases h
      exact ⟨_, rfl, by rw [e], rfl⟩
    · cases h
  · cases h
theorem od_tin {c : Str} {t : List (Str × D)} (hK : X.K = g.K) (T : TabOk g X.w c t) (TK : tabK g.K (g.cs c) t = true) : OpD g X (compareOp .In) (tinD c t false) := by
  obtain ⟨es, n, D⟩ := T.dict
  rw [← hK] at D TK
  refine OpR.imp (op_in_kd D) fun x y H Q ⟨Z, F, st, dx, dy, d, sim, hx, hy, e, q⟩ => ?_
  obtain ⟨z, rfl, rfl, rfl⟩ := tin_inv e
  unfold RelD at hx hy
  obtain ⟨r, h1, h2⟩ := ns_keys (z := z) TK
  have := q (.bl (decide (z ∈ t.map (·.1)) ^^ false)) F H (Same.refl _) sim relD_bl
  exact ⟨z, r, hx, hy, h1, by rw [h2]; simpa using this⟩
theorem od_tnotin {c : Str} {t : List (Str × D)} (hK : X.K = g.K) (T : TabOk g X.w c t) (TK : tabK g.K (g.cs c) t = true) : OpD g X (compareOp .NotIn) (tinD c t true) := by
  obtain ⟨es, n, D⟩ := T.dict
  rw [← hK] at D TK
  refine OpR.imp (op_notIn_kd D) fun x y H Q ⟨Z, F, st, dx, dy, d, sim, hx, hy, e, q⟩ => ?_
  obtain ⟨z, rfl, rfl, rfl⟩ := tin_inv e
  unfold RelD at hx hy
  obtain ⟨r, h1, h2⟩ := ns_keys (z := z) TK
  have := q (.bl (decide (z ∈ t.map (·.1)) ^^ true)) F H (Same.refl _) sim relD_bl
  exact ⟨z, r, hx, hy, h1, by rw [h2]; simpa using this⟩
/-! running -/
variable {s : S} {Q : D → S → Prop} {E : Ex → S → Prop} {QF : Fl → S → Prop} {EE : Ex × Env → S → Prop}
theorem x_frzS {i : Nat} : frzS i ρ s QF EE = varO ρ[i]? s (fun d s1 => frz1 d s1 (fun x s2 => QF (.nx (ρ.set i (some x))) s2) EE) (fun x s' => EE (x, ρ) s') := rfl
theorem x_frz_ref {a : Addr} : (frz1 (.ref a) : M (Ex × Env) D) s Q EE = freeze (.ref a) s Q EE := rfl
theorem x_frz_lst {xs : List D} : (frz1 (.lst xs) : M (Ex × Env) D) s Q EE = Q (.lst xs) s := rfl
theorem x_frz_dic {ks : List Key} {vs : List D} : (frz1 (.dic ks vs) : M (Ex × Env) D) s Q EE = Q (.dic ks vs) s := rfl
theorem x_lcpM {a : Env → M Ex (List D)} : lcpM a ρ s Q E = a ρ s (fun ds s1 => ∃ xs, lcpO ds s1 = some xs ∧ ∀ a, s1.map a = none → Q (.ref a) (s1.set a (.lst xs))) E := rfl
theorem lcp_one {d : D} : lcpO [d] s = seqD s d := rfl
theorem x_sliceL {a : Env → M Ex D} {l h : Env → M Ex (Option Int)} : sliceL a l h ρ s Q E = a ρ s (fun x s1 => l ρ s1 (fun lo s2 => h ρ s2 (fun hi s3 => ∃ v, ((lstOf s3 x).map fun xs => D.lst (cutD xs lo hi)) = some v ∧ Q v s3) E) E) E := rfl
theorem tin_eq {c z : Str} {t : List (Str × D)} {neg : Bool} : tinD c t neg (.str z) (.cst c) s = some (.bl (decide (z ∈ t.map (·.1)) ^^ neg)) := if_pos rfl
end
end DL

namespace DL
def runs_D26 := And.intro @x_frzS (And.intro @x_frz_ref (And.intro @x_frz_lst (And.intro @x_frz_dic (And.intro @x_lcpM (And.intro @lcp_one (And.intro @x_sliceL (@tin_eq)))))))
end DL
/-! ### own exceptions over LookupError, Exception, .. : the class's base told by its facts -/
namespace DL
open PySem L2
/-- a built-in base: how it makes, begins, stores -/
structure XB (B nw ini : String) (tl : List Value) : Prop where
  fa : ExcBaseFacts B nw ini tl
  st : StoreFacts B tl "object.__setattr__" "object"
theorem xb_Lookup : XB "LookupError" "LookupError.__new__" "LookupError.__init__" [.type "LookupError", .type "Exception", .type "BaseException", .type "object"] := ⟨F.excBase_LookupError, F.store_LookupError⟩
theorem xb_Exception : XB "Exception" "Exception.__new__" "Exception.__init__" [.type "Exception", .type "BaseException", .type "object"] := ⟨F.excBase_Exception, F.store_Exception⟩
/-- what the written part says of such a class -/
structure OexG (k : PySem.W.Frag) (c : Addr) (nw : String) (tl : List Value) : Prop where
  obj : ∃ n1 n2 a1 l1 l2 b1 b2 b3 b4 b5 z0 z1 z2 z3 z5, k.lookup c = some (excClassObj n1 n2 c a1 l1 l2 true b1 b2 b3 b4 b5 z0 z1 z2 z3 z5 nw) ∧ PySem.W.excTail tl l2 = true
  sets : PySem.W.findIn k (.ref c) "__setattr__" = some (some (.builtin "object.__setattr__"))
  isx : PySem.W.subIn k (.ref c) (.type "BaseException") = some true
  ty : PySem.W.typeIn k (.ref c) = some (.type "type")
  kp : PySem.W.keepIn k (.ref c) = true
section
open PySem.W PyProof.Rows PySem.HandSPX Builtin Builtin.ObjectAttr
variable {P : Program} {wo : World} {Ar : Around} {Rs : Result → Shared → Prop} {hp : Heap} {gs : Array GenState} {dr : Drawn} {tk0 : Nat} {os0 : OsState} {k : Frag} {c x dx : Addr} {B nw ini : String} {tl : List Value} {nm : Str} {tk : Tok} {v : Value} {fv : Array Value}
theorem OexG.over (T : OexG k c nw tl) : excOver k c tl = true ∧ ∃ cd, clsIn k c = some cd ∧ cd.hasDict = true := by
  obtain ⟨n1, n2, a1, l1, l2, b1, b2, b3, b4, b5, z0, z1, z2, z3, z5, hc, ht⟩ := T.obj
  have e : clsIn k c = some { name := n1, bases := l1, mro := .ref c :: l2, ns := a1, qualname := n2, hasDict := true, slotNames := b1, subclasses := b2, abstract := b3, collection := b4, hasDel := false } := by
    unfold clsIn
    rw [hc]
  refine ⟨?_, _, e, rfl⟩
  unfold excOver
  rw [e]
  show (c == c && excTail tl l2) = true
  rw [ht]
  simp
theorem taker_none (h : findIn k (.ref c) nm = some none) : takerIn k c nm = some none := by
  unfold takerIn
  rw [h]
  rfl
/-- the first field: the dict is made -/
theorem set_first (b : XB B nw ini tl) (T : OexG k c nw tl) (hin : k.In hp) (ho : hp.get? x = some { cls := .ref c, data := .fields fv }) (hn : findIn k (.ref c) nm = some none)
    (hq : ∀ h2 t2 dx, (∀ b o, b ≠ x → hp.get? b = some o → h2.get? b = some o) → hp.objs.size ≤ dx → dx ≠ x → h2.get? x = some { cls := .ref c, dict := some dx, data := .fields fv } →
      h2.Ns1 dx (fun y => if y = nm then some v else none) → Rs (.ok (.ret .none)) ⟨h2, gs, dr, t2, os0⟩) :
    codeAny (model P wo) Ar (.call (.builtin "object.__setattr__") ⟨[.ref x, .str nm tk, v], []⟩) Rs ⟨hp, gs, dr, tk0, os0⟩ := by
  obtain ⟨hov, cd, hcd, hdd⟩ := T.over
  have hne : x ≠ hp.objs.size := Nat.ne_of_lt (Heap.lt_size ho)
  have hin0 : InstAt hp x { cls := .ref c, data := .fields fv } c none := ⟨ho, rfl, rfl, trivial⟩
  have lk : Looks (model P wo) hp (classData c) cd := looks_clsIn hin hcd
  refine osa_openX (s := ⟨hp, gs, dr, tk0, os0⟩) b.st hin hin0 hov (taker_none hn) fun bo => ?_
  dsimp only
  obtain ⟨_, _, _, _, _, hdd', _, _, _, _, _⟩ := cd
  dsimp only at hdd
  subst hdd
  unfold storeInOwnDict ownDictForStores
  repeat (first
    | with_reducible refine wpAny_loadPart_at ho ?_
    | with_reducible refine lk.at ?_
    | with_reducible refine store_in_new ?_ ?_
    | wp_step)
  · exact ⟨_, #[], _,
      (Heap.get?_update_ne _ _ _ _ hne.symm).trans (Heap.get?_push_at rfl rfl),
      rfl, fun e he => absurd he (by simp), fun _ => rfl⟩
  · intro h2 t2 n2 sb
    refine hq h2 t2 hp.objs.size (fun b o hb hbo => ?_) (Nat.le_refl _) hne.symm ?_ n2
    · exact (sb.2 b (Nat.ne_of_lt (Heap.lt_size hbo))).trans ((Heap.get?_update_ne _ _ _ _ hb).trans (Heap.get?_push_of_some _ hbo))
    · exact (sb.2 x hne).trans (Heap.get?_update_self _ (Heap.get?_push_of_some _ ho) rfl)
/-- a further field -/
theorem set_more {m0 : Str → Option Value} {nl : List Str} (b : XB B nw ini tl) (T : OexG k c nw tl) (hin : k.In hp) (ho : hp.get? x = some { cls := .ref c, dict := some dx, data := .fields fv }) (hns : hp.Ns1 dx m0) (hw : Within m0 nl) (hz : nl.length ≤ 1000) (hn : findIn k (.ref c) nm = some none)
    (hq : ∀ h2 t2, (∀ b o, b ≠ dx → hp.get? b = some o → h2.get? b = some o) → h2.Ns1 dx (fun y => if y = nm then some v else m0 y) → Rs (.ok (.ret .none)) ⟨h2, gs, dr, t2, os0⟩) :
    codeAny (model P wo) Ar (.call (.builtin "object.__setattr__") ⟨[.ref x, .str nm tk, v], []⟩) Rs ⟨hp, gs, dr, tk0, os0⟩ := by
  obtain ⟨hov, cd, hcd, hdd⟩ := T.over
  obtain ⟨oD, _, _, hoD, _, _⟩ := hns.count hw
  have hin0 : InstAt hp x { cls := .ref c, dict := some dx, data := .fields fv } c (some oD) := ⟨ho, rfl, rfl, hoD⟩
  have lk : Looks (model P wo) hp (classData c) cd := looks_clsIn hin hcd
  refine osa_openX (s := ⟨hp, gs, dr, tk0, os0⟩) b.st hin hin0 hov (taker_none hn) fun bo => ?_
  dsimp only
  obtain ⟨_, _, _, _, _, hdd', _, _, _, _, _⟩ := cd
  dsimp only at hdd
  subst hdd
  unfold storeInOwnDict ownDictForStores
  repeat (first
    | with_reducible refine wpAny_loadPart_at ho ?_
    | with_reducible refine lk.at ?_
    | with_reducible refine PySem.OEX.store_in_old hns hw hz ?_
    | wp_step)
  intro h2 t2 n2 sb
  exact hq h2 t2 (fun b o hb hbo => (sb.2 b hb).trans hbo) n2
end
section
variable {X : Cx} {pins : List (Addr × Obj)} {σ : St} {H : Hp} {s : Shared} {a c dx : Addr} {f : Str} {y : V} {u : Value} {fs : List (Str × V)} {B nw ini : String} {tl : List Value} {A : Around} {Ex0 : Value → Shared → Prop}
theorem upd_self {o : HO} (h : H a = some o) : upd H a o = H := by
  funext b
  by_cases e : b = a
  · subst e; rw [upd_same, h]
  · rw [upd_ne e]
/-- self.f = y, ahead of all others -/
theorem gst_new {Q : Unit → Shared → Prop} (b : XB B nw ini tl) (T : OexG X.K c nw tl) (I : Inv X pins σ H s) (e : H a = some (exo a c none)) (hn : PySem.W.findIn X.K (.ref c) f = some none) (ry : RelV y u)
    (q : ∀ dx s2, H dx = none → dx ≠ a → Inv X pins σ (upd (upd H dx (exd dx [(f, y)])) a (exo a c (some dx))) s2 → Q () s2) : wpAny (model X.prog X.w) A (setAttr (.ref a) f u) Q Ex0 s := by
  obtain ⟨t1, ho⟩ := exo_at I.hok e
  obtain ⟨hp, gs, dr, tk, os⟩ := s
  refine PySem.W.set_plain I.kIn (od := none) ⟨ho, rfl, rfl, trivial⟩ T.sets ?_
  refine set_first b T I.kIn ho hn fun h2 t2 dx kp fr dne hx n2 => ?_
  have hnd : H dx = none := I.hok.fresh fr
  have n1 : ∀ {z : Addr}, H z = none → z ≠ a := fun {z} n w => by rw [w, e] at n; cases n
  have n3 : ∀ {z : Addr} {o : Obj}, hp.get? z = some o → z ≠ dx := fun {z o} w => Nat.ne_of_lt (Nat.lt_of_lt_of_le (Heap.lt_size w) fr)
  have up2 : ∀ {z : Addr} {w : HO}, z ≠ a → H z = some w → (upd (upd H dx (exd dx [(f, y)])) a (exo a c (some dx))) z = some w := fun {z w} h1 h2 => by
    rw [upd_ne h1, upd_ne (ne_of_none h2 hnd)]; exact h2
  have U : Un X.fs [] H (upd (upd H dx (exd dx [(f, y)])) a (exo a c (some dx))) hp h2 :=
    ⟨fun z o w n _ _ => kp z o (n1 n) w, fun z o w n _ _ => ⟨o.slots, kp z o (n1 n) w⟩, fun z o w n _ => by rw [upd_ne (n1 n), upd_ne (n3 w)]; exact n,
     fun z o w _ => by
      by_cases hz : z = a
      · subst hz; exact ⟨_, hx⟩
      · exact ⟨o, kp z o hz w⟩,
     fun z xs w => up2 (at_ne e w exo_tup) w, fun z o v w => up2 (at_ne e w exo_frz) w, fun z ps w => ⟨#[], by rw [up2 (at_ne e w exo_tbl) w]; simp⟩⟩
  refine q dx _ hnd dne (I.un (t' := t2) U fun z o w => ?_)
  by_cases hz : z = a
  · subst hz
    rw [upd_same] at w
    cases w
    exact exo_ok hx
  rw [upd_ne hz] at w
  by_cases hd : z = dx
  · subst hd
    rw [upd_same] at w
    cases w
    exact exd_ok n2 (relO_put (fs := []) ry fun _ => True.intro)
  rw [upd_ne hd] at w
  refine (I.hok z o w).stay (fun z2 v2 hc w2 => kp z2 v2 ?_ w2) (fun z2 hc => up2 (at_ne e hc exo_own) hc) fun z2 xs hc => up2 (at_ne e hc exo_tup) hc
  rcases hc with hc | hc
  · rw [hc]; exact hz
  · exact at_ne e hc exo_own
/-- .. behind others -/
theorem gst_old {Q : Unit → Shared → Prop} (b : XB B nw ini tl) (T : OexG X.K c nw tl) (I : Inv X pins σ H s) (e : H a = some (exo a c (some dx))) (ed : H dx = some (exd dx fs)) (hl : fs.length ≤ 900) (hn : PySem.W.findIn X.K (.ref c) f = some none) (ry : RelV y u)
    (q : ∀ s2, Inv X pins σ (upd H dx (exd dx ((f, y) :: fs))) s2 → Q () s2) : wpAny (model X.prog X.w) A (setAttr (.ref a) f u) Q Ex0 s := by
  obtain ⟨t1, ho⟩ := exo_at I.hok e
  obtain ⟨mA, hns, rel⟩ := exd_at I.hok ed
  obtain ⟨hp, gs, dr, tk, os⟩ := s
  obtain ⟨oD, _, _, hoD, _, _⟩ := hns.count (within_of rel)
  refine PySem.W.set_plain I.kIn (od := some oD) ⟨ho, rfl, rfl, hoD⟩ T.sets ?_
  refine set_more b T I.kIn ho hns (within_of rel) (by rw [List.length_map]; omega) hn fun h2 t2 kp n2 => ?_
  have hd : ∃ o, h2.get? dx = some o := let ⟨o, _, _, w, _⟩ := n2; ⟨o, w⟩
  exact q _ (I.write (t' := t2) (x := dx) (e := dx) (o := exd dx ((f, y) :: fs)) (by rw [ed]; exact True.intro) (.inl rfl) kp hd (exd_ok n2 (relO_put ry rel)))
/-- the base's own __init__ -/
theorem gin_ok {us : List Value} {Q : Value → Shared → Prop} (b : XB B nw ini tl) (T : OexG X.K c nw tl) (I : Inv X pins σ H s) (e : H a = some (exo a c none)) (hl : us.length ≤ sizeLine) (q : ∀ s2, Inv X pins σ H s2 → Q .none s2) :
    wpAny (model X.prog X.w) A (call (.builtin ini) (.ref a :: us)) Q Ex0 s := by
  obtain ⟨n1, n2, a1, l1, l2, b1, b2, b3, b4, b5, z0, z1, z2, z3, z5, hc, ht⟩ := T.obj
  obtain ⟨t1, ho⟩ := exo_at I.hok e
  obtain ⟨hp, gs, dr, tk, os⟩ := s
  refine wpAny_call (PySem.HandSPX.init_base b.fa (fun Y => PySem.W.excTail_contains Y l2 ht) (I.kIn _ _ hc) ho hl fun h2 t2 kp hx => ?_)
  have J := I.write (t' := tk) (x := a) (e := a) (o := exo a c none) (by rw [e]; exact True.intro) (.inl rfl) kp ⟨_, hx⟩ (exo_ok hx)
  rw [upd_self e] at J
  exact q _ J
end
end DL

/-! ### dict == dict, dict != dict: flat values -/
namespace DL
open PySem L2
section
variable {g : G} {Z F F' H H' : Hp} {W : WX} {σ : St} {ρ : Env} {st : S} {X : Cx}
def hitsV (ls : List (Key × V)) : List (Key × V) → Bool
  | [] => true
  | p :: r => match valV ls p.1 with
    | none => false
    | some y => eqV p.2 y && hitsV ls r
theorem valV_mem {ls : List (Key × V)} {k : Key} {y : V} (h : valV ls k = some y) : ∃ p, p ∈ ls ∧ p.2 = y := by
  obtain ⟨q, h1, h2⟩ := Option.map_eq_some_iff.mp h
  exact ⟨q, List.mem_of_find?_eq_some h1, h2⟩
theorem hits_any {A : Around} {s : Shared} {ls : List (Key × V)} {vb : List (Key × Value)} (rb : KV ls vb) (fl : ∀ p ∈ ls, flatV p.2 = true) {ks : List (Key × V)} {va : List (Key × Value)} (ra : KV ks va) :
    (∀ p ∈ ks, flatV p.2 = true) → PySem.W.KeqHits A s vb va (hitsV ls ks) := by
  unfold KV at ra
  induction ra with
  | nil => intro _; exact .nil
  | @cons p q ps qs h t ih =>
    intro hp
    obtain ⟨h1, h2⟩ := h
    have rr := rb.val p.1
    obtain ⟨k, v⟩ := q
    have h1' : p.1 = k := h1
    have ih := ih fun p' hm => hp p' (List.mem_cons_of_mem _ hm)
    unfold hitsV
    cases e : valV ls p.1 with
    | none =>
      rw [e] at rr
      have hy := rr.none_of
      rw [h1'] at hy
      exact .miss hy
    | some y =>
      rw [e] at rr
      obtain ⟨u, hy, ry⟩ := rr.some_of
      rw [h1'] at hy
      obtain ⟨z, hz, ez⟩ := valV_mem e
      exact .hit hy (eqAt_V h2 ry (hp p List.mem_cons_self) (by rw [← ez]; exact fl z hz)) ih
def rEqK (neg : Bool) : R2 := fun x y H Q => ∃ a b ks ls, x = .ref a ∧ y = .ref b ∧ H a = some (.dK ks) ∧ H b = some (.dK ls) ∧ (∀ p ∈ ks, flatV p.2 = true) ∧ (∀ p ∈ ls, flatV p.2 = true) ∧ Q (.bl ((ks.length == ls.length && hitsV ls ks) ^^ neg)) H
theorem op_eqK (hu : X.A.units < cLine) : OpR X (compareOp .Eq) (rEqK false) := by
  intro pins s σ H x y v u Q I rx ry h
  obtain ⟨a, b, ks, ls, rfl, rfl, ea, eb, f1, f2, q⟩ := h
  obtain rfl : v = Value.ref a := rx
  obtain rfl : u = Value.ref b := ry
  obtain ⟨_, ya, va, ra, da⟩ := (show ObjOk X.prog X.w H s.heap a (.dK ks) from I.hok a _ ea)
  obtain ⟨_, yb, vb, rb, db⟩ := (show ObjOk X.prog X.w H s.heap b (.dK ls) from I.hok b _ eb)
  exact PySem.W.keq_eq (knd := mixKind X.prog X.w) (r := hitsV ls ks) ya yb da db hu (fun _ => hits_any rb f2 ra f1) (fin_bl I q (by rw [ra.length, rb.length, Bool.xor_false]))
theorem op_neK (hu : X.A.units < cLine) : OpR X (compareOp .NotEq) (rEqK true) := by
  intro pins s σ H x y v u Q I rx ry h
  obtain ⟨a, b, ks, ls, rfl, rfl, ea, eb, f1, f2, q⟩ := h
  obtain rfl : v = Value.ref a := rx
  obtain rfl : u = Value.ref b := ry
  obtain ⟨_, ya, va, ra, da⟩ := (show ObjOk X.prog X.w H s.heap a (.dK ks) from I.hok a _ ea)
  obtain ⟨_, yb, vb, rb, db⟩ := (show ObjOk X.prog X.w H s.heap b (.dK ls) from I.hok b _ eb)
  exact PySem.W.keq_ne (knd := mixKind X.prog X.w) (r := hitsV ls ks) ya yb da db hu (fun _ => hits_any rb f2 ra f1) (fin_bl I q (by rw [ra.length, rb.length, Bool.xor_true]))
def kvV : List (Key × D) → Option (List (Key × V))
  | [] => some []
  | (k, d) :: r => (scalV d).bind fun v => (kvV r).map fun vs => (k, v) :: vs
theorem scalV_flatV {d : D} {v : V} (h : scalV d = some v) : flatV v = true := by
  cases d <;> first | (cases h; done) | (cases (Option.some.inj h); rfl)
theorem kvV_rel : ∀ {kds : List (Key × D)} {kvs us : List (Key × V)}, kvV kds = some us → kvs.map (·.1) = kds.map (·.1) → RelDs g F (kds.map (·.2)) (kvs.map (·.2)) → kvs = us ∧ ∀ p ∈ us, flatV p.2 = true
  | [], kvs, us, h, e, _ => by
    cases (Option.some.inj h)
    exact ⟨List.map_eq_nil_iff.mp e, fun _ h => by cases h⟩
  | (k, d) :: r, [], us, h, e, _ => by cases e
  | (k, d) :: r, (k', v') :: kvs, us, h, e, rr => by
    obtain ⟨v, h1, h⟩ := Option.bind_eq_some_iff.mp (show ((scalV d).bind fun v => (kvV r).map fun vs => (k, v) :: vs) = some us from h)
    obtain ⟨vs, h2, rfl⟩ := Option.map_eq_some_iff.mp h
    obtain ⟨e1, e2⟩ := List.cons.inj e
    have e1 : k' = k := e1
    obtain ⟨x, xs, e3, r1, r2⟩ := rr.cons_inv
    obtain ⟨rfl, rfl⟩ := List.cons.inj e3
    obtain ⟨i1, i2⟩ := kvV_rel h2 e2 r2
    have e4 := scalV_rel h1 r1
    have e4 : v' = v := e4
    subst e1 e4 i1
    refine ⟨rfl, fun p hp => ?_⟩
    rcases List.mem_cons.mp hp with rfl | hp
    · exact scalV_flatV h1
    · exact i2 p hp
def eqKB (st : S) (x y : D) : Option Bool := (dicOf st x).bind fun ks => (dicOf st y).bind fun ls => (kvV ks).bind fun us => (kvV ls).map fun vs => us.length == vs.length && hitsV vs us
def eqKD : P2 := fun x y st => (eqKB st x y).map .bl
def neKD : P2 := fun x y st => (eqKB st x y).map fun b => .bl (!b)
theorem eqKB_rel {x y : D} {b : Bool} (h : eqKB st x y = some b) (neg : Bool) {v u : V} {H : Hp} {Q : VK} (sim : Sim g Z st F H) (hx : RelD g F x v) (hy : RelD g F y u) (q : Q (.bl (b ^^ neg)) H) : rEqK neg v u H Q := by
  obtain ⟨ks, h1, h⟩ := Option.bind_eq_some_iff.mp h
  obtain ⟨ls, h2, h⟩ := Option.bind_eq_some_iff.mp h
  obtain ⟨us, h3, h⟩ := Option.bind_eq_some_iff.mp h
  obtain ⟨vs, h4, rfl⟩ := Option.map_eq_some_iff.mp h
  obtain ⟨a, kv1, rfl, a1, a2, a3⟩ := sim.dicOf hx h1
  obtain ⟨c, kv2, rfl, b1, b2, b3⟩ := sim.dicOf hy h2
  obtain ⟨rfl, f1⟩ := kvV_rel h3 a2 a3
  obtain ⟨rfl, f2⟩ := kvV_rel h4 b2 b3
  exact ⟨a, c, _, _, rfl, rfl, a1, b1, f1, f2, q⟩
theorem od_eqK (hu : X.A.units + 64 < cLine) : OpD g X (compareOp .Eq) eqKD := OpD.of fun dx dy Z F st d e => by
  obtain ⟨b, hb, rfl⟩ := Option.map_eq_some_iff.mp e
  exact ⟨_, op_eqK (by omega), fun x y H Q sim hx hy q => eqKB_rel hb false sim hx hy (by rw [Bool.xor_false]; exact q _ F H (Same.refl _) sim relD_bl)⟩
theorem od_neK (hu : X.A.units + 64 < cLine) : OpD g X (compareOp .NotEq) neKD := OpD.of fun dx dy Z F st d e => by
  obtain ⟨b, hb, rfl⟩ := Option.map_eq_some_iff.mp e
  exact ⟨_, op_neK (by omega), fun x y H Q sim hx hy q => eqKB_rel hb true sim hx hy (by rw [Bool.xor_true]; exact q _ F H (Same.refl _) sim relD_bl)⟩
end
end DL

/-! ### own exceptions over LookupError, Exception: begun, made, raised -/
namespace DL
open PySem PySem.Spec PyProof.Rows L2
def tGe (K : PySem.W.Frag) (nw : String) (tl : List Value) (ta : TA) : TE := fun σ H Q => ta σ H fun vs H1 => ∃ (a c : Addr) (ws : List V), vs = .ref a :: ws ∧ ws.length ≤ 1000 ∧ OexG K c nw tl ∧ H1 a = some (exo a c none) ∧ Q .non H1
def tGst (K : PySem.W.Frag) (nw : String) (tl : List Value) (f : Str) (to te : TE) : TS := fun D σ H => te σ H fun y H1 => to σ H1 fun x H2 => ∃ a c : Addr, x = .ref a ∧ OexG K c nw tl ∧ PySem.W.findIn K (.ref c) f = some none ∧
  ((H2 a = some (exo a c none) ∧ ∀ dx, H2 dx = none → dx ≠ a → D.nx σ (upd (upd H2 dx (exd dx [(f, y)])) a (exo a c (some dx)))) ∨
    ∃ (dx : Addr) (fs : List (Str × V)), H2 a = some (exo a c (some dx)) ∧ H2 dx = some (exd dx fs) ∧ fs.length ≤ 900 ∧ D.nx σ (upd H2 dx (exd dx ((f, y) :: fs))))
section
variable {X : Cx} {o e : Expr} {es : List Expr} {to te : TE} {ta : TA} {f : Str} {p p' p1 p2 pos : Pos} {B nw ini : String} {tl : List Value}
theorem ps_gst (b : XB B nw ini tl) (ho : PE X o to) (he : PE X e te) (hs : swapsWith e (some (.Attribute o f p')) pos.line X.env = pure false := by rfl) : PS X (.Assign [.Attribute o f p'] e pos) (tGst X.K nw tl f to te) := by
  refine ⟨fun pins s σ H D I h => ?_⟩
  refine plainObj_wpAny_Assign_Attribute (thn (he.run pins s σ H _ I h) fun v s1 ⟨y, H1, I1, r1, q1⟩ => thn (ho.run pins s1 σ H1 _ I1 q1) fun u s2 ⟨x, H2, I2, r2, a, c, ex, T, hno, q⟩ => ?_) hs
  subst ex
  obtain rfl : u = Value.ref a := r2
  rcases q with ⟨ea, q⟩ | ⟨dx, fs, ea, ed, hl, q⟩
  · exact gst_new b T I2 ea hno r1 fun dx s' n ne J => ⟨σ, _, J, q dx n ne⟩
  · exact gst_old b T I2 ea ed hl hno r1 fun s' J => ⟨σ, _, J, q⟩
/-- x.__init__(self, ..), x an own class without an __init__ -/
theorem pe_ginit (b : XB B nw ini tl) {Bc : Addr} {x : Str} {pl : Sem Bool} (hg : Gl X x) (hm : X.mg x = some (.ref Bc)) (r : ClX.CRead X.K Bc (.type "type")) (v : PySem.W.findCls X.K (.ref Bc) (.type "type") "__init__" = some (.val (.builtin ini))) (ha : PA X (e :: es) ta)
    (hh : PySem.W.handedIn (.builtin ini) = true := by decide +kernel) (hdb : (x == ("__debug__" : Str)) = false := by decide)
    (hc : eval (.Call (.Attribute (.Name x p1) "__init__" p2) (e :: es) [] pos) X.env = (do
      let ov ← eval (.Name x p1) X.env
      standAt p2.atName
      let (f, first) ← holding [ov] (getMethod ov "__init__" pl)
      callWith pos f first (backTo pos (starEach (e :: es) X.env)) (backToKw pos (keywordEach [] X.env))) := by rfl)
    (he : starEach (e :: es) X.env = (false, eval e X.env) :: starEach es X.env := by rfl) (hpl : (backTo pos (starEach es X.env)).any (·.1) = false := by rfl) :
    PE X (.Call (.Attribute (.Name x p1) "__init__" p2) (e :: es) [] pos) (tGe X.K nw tl ta) := by
  refine ⟨fun pins s σ H Q I h => PySem.W.methodCall_KW (ld_glob I hg hm ?_ hdb) hc⟩
  refine PySem.W.method_cls I.kIn r.ga (PySem.W.cls_value I.kIn r.rd v hh ?_)
  show wpAny _ _ (callWith pos (Value.builtin ini) [] (backTo pos (starEach (e :: es) X.env)) []) _ _ _
  refine PyProof.Rows.callWith_method1 (thn (ha.run pos pins _ σ H _ (I.tok _) h) fun us s1 ⟨vs, H1, I1, r1, a, c, ws, ev, hl, T, ea, q⟩ => ?_) he hpl
  subst ev
  cases r1 with
  | @cons _ u0 _ ur ra rw' =>
    cases (show u0 = Value.ref a from ra)
    exact gin_ok b T I1 ea (by rw [← Paired.length rw', sizeLine_eq]; omega) fun s' J => ⟨.non, H1, J, rfl, q⟩
/-- x.__init__(self, ..), x a built-in class -/
theorem pe_gbinit (b : XB B nw ini tl) {x : Str} {T0 : String} {pl : Sem Bool} (hg : Gl X x) (hm : X.mg x = none) (hB : bootBuiltins x = some (.type T0)) (ht : typeOf (.type T0) = pure (.type "type")) (hs : Manifest.isStub T0 = false)
    (v : PySem.W.findCls X.K (.type T0) (.type "type") "__init__" = some (.val (.builtin ini))) (ha : PA X (e :: es) ta) (hh : PySem.W.handedIn (.builtin ini) = true := by decide +kernel)
    (hnn : x ≠ ("__name__" : Str) := by decide) (hdb : (x == ("__debug__" : Str)) = false := by decide)
    (hc : eval (.Call (.Attribute (.Name x p1) "__init__" p2) (e :: es) [] pos) X.env = (do
      let ov ← eval (.Name x p1) X.env
      standAt p2.atName
      let (f, first) ← holding [ov] (getMethod ov "__init__" pl)
      callWith pos f first (backTo pos (starEach (e :: es) X.env)) (backToKw pos (keywordEach [] X.env))) := by rfl)
    (he : starEach (e :: es) X.env = (false, eval e X.env) :: starEach es X.env := by rfl) (hpl : (backTo pos (starEach es X.env)).any (·.1) = false := by rfl) :
    PE X (.Call (.Attribute (.Name x p1) "__init__" p2) (e :: es) [] pos) (tGe X.K nw tl ta) := by
  refine ⟨fun pins s σ H Q I h => ?_⟩
  refine PySem.W.methodCall_KW (ld_blt I hg hm hB ?_ hnn hdb) hc
  obtain ⟨m, fr⟩ := I.fr
  refine PySem.W.method_type fr I.ok.mod.kin ht hs v hh ?_
  show wpAny _ _ (callWith pos (Value.builtin ini) [] (backTo pos (starEach (e :: es) X.env)) []) _ _ _
  refine PyProof.Rows.callWith_method1 (thn (ha.run pos pins _ σ H _ (I.tok _) h) fun us s1 ⟨vs, H1, I1, r1, a, c, ws, ev, hl, T, ea, q⟩ => ?_) he hpl
  subst ev
  cases r1 with
  | @cons _ u0 _ ur ra rw' =>
    cases (show u0 = Value.ref a from ra)
    exact gin_ok b T I1 ea (by rw [← Paired.length rw', sizeLine_eq]; omega) fun s' J => ⟨.non, H1, J, rfl, q⟩
/-- c(e, ..), an exception made -/
theorem pmk_g {CX : CXT} {x : Str} {c fI : Addr} {k : Nat} {fd : FuncData} {ps : List Str} {sp : Sp} {ds : List Value} {dvs : List V} (b : XB B nw ini tl) (T : OexG X.K c nw tl) (iC : PySem.W.findIn X.K (.ref c) "__init__" = some (some (.ref fI))) (tI : PySem.W.typeIn X.K (.ref fI) = some (.type "function"))
    (F1 : FnOk X.prog X.w X.K X.mg X.base CX k fI fd ps sp) (hr : Room (k + 1) X.A) (hb : Binds X.K fd ps ds) (hd : Vals dvs ds) (hx : Passes CX X (fun _ _ _ => False)) (hg : Gl X x) (hm : X.mg x = some (.ref c)) (ha : PA X (e :: es) ta)
    (hdb : (x == ("__debug__" : Str)) = false := by decide) (he : starEach (e :: es) X.env = (false, eval e X.env) :: starEach es X.env := by rfl) (hpl : (backTo pos (starEach es X.env)).any (·.1) = false := by rfl) :
    L2N.PMk X (.Call (.Name x p) (e :: es) [] pos) (tMkO c sp dvs ta) := by
  intro pins s σ H Q I h
  obtain ⟨n1, n2, a1, l1, l2, b1, b2, b3, b4, b5, z0, z1, z2, z3, z5, hC, ht⟩ := T.obj
  refine wpAny_Call_Name_kw (ld_glob I hg hm ?_ hdb)
  refine PySem.W.callWith_K (h₀ := X.base) I.ok.mod.kin T.kp (thn (ha.run pos pins s σ H _ I h) fun us s1 ⟨vs, H1, I1, r1, hz, q1⟩ => ⟨I1.kIn, ?_⟩) he hpl
  show wpAny _ _ (call (.ref c) us) _ _ _
  obtain ⟨hp, g, dr, tk, os⟩ := s1
  have hsz : hp.objs.size ≤ hp.objs.size + 1 := Nat.le_succ _
  have hn : H1 (hp.objs.size + 1) = none := I1.hok.fresh hsz
  have hq := q1 (hp.objs.size + 1) hn
  have kk : ∀ b o, hp.get? b = some o → ((hp.push (PySem.W.kdv_tup us)).push (PySem.HandSPX.excO c hp.objs.size)).get? b = some o := fun b o e => Heap.get?_push_of_some _ (Heap.get?_push_of_some _ e)
  have hget : ((hp.push (PySem.W.kdv_tup us)).push (PySem.HandSPX.excO c hp.objs.size)).get? (hp.objs.size + 1) = some (PySem.HandSPX.excO c hp.objs.size) := by heap_get
  have I2 : Inv X pins σ (upd H1 (hp.objs.size + 1) (exo (hp.objs.size + 1) c none)) ⟨(hp.push (PySem.W.kdv_tup us)).push (PySem.HandSPX.excO c hp.objs.size), g, dr, tk, os⟩ :=
    I1.laid (t' := tk) (a := hp.objs.size + 1) (o := exo (hp.objs.size + 1) c none) (h' := (hp.push (PySem.W.kdv_tup us)).push (PySem.HandSPX.excO c hp.objs.size)) kk hsz (exo_ok hget)
  have r2 : Vals (V.ref (hp.objs.size + 1) :: (vs ++ dvs)) (Value.ref (hp.objs.size + 1) :: (us ++ ds)) := .cons rfl (r1.append hd)
  have hl : (Value.ref (hp.objs.size + 1) :: us ++ ds).length = ps.length := by
    have e := r2.length
    rw [F1.len _ _ _ _ hq] at e
    exact e.symm
  have hus : us.length ≤ sizeLine := by
    rw [← Paired.length r1, sizeLine_eq]
    omega
  refine wpAny_call (PySem.HandSPX.call_own b.fa (fun Y => PySem.W.excTail_contains Y l2 ht) (I1.kIn _ _ hC) (PySem.W.looks_findIn I1.kIn iC) (fun self => PySem.W.bind_fn I1.kIn self tI) hus
    (codeAny_mono (F1.run _ X.stack _ _ ⟨Value.ref (hp.objs.size + 1) :: us, []⟩ (Value.ref (hp.objs.size + 1) :: (us ++ ds)) _ _ (fun _ _ _ => False) (hr.make c us []) (I2.env0.make c us []) (hb _ (Value.ref (hp.objs.size + 1) :: us) I2.kIn hl) r2 hq) fun r s' hq' => ?_))
  cases r with
  | error er => exact hx pins σ _ _ er s' I2 hq'
  | ok fl =>
    cases fl with
    | ret u =>
      obtain ⟨v, H2, os2, bare2, un2, hok2, rv, ev, d, fs, ea, ed, hd1, q2⟩ := hq'
      subst ev
      obtain ⟨h2, g2, d2, t2, os'⟩ := s'
      exact ⟨rv, mk_endN (raises_own T.isx T.ty) I1 hsz kk un2 hok2 os2 bare2 ea ed hd1 q2⟩
    | next => exact False.elim hq'
    | brk => exact False.elim hq'
    | cont => exact False.elim hq'
end
/-! over data -/
section
variable {g : G} {Z F F' H H' : Hp} {W : WX} {σ : L2.St} {ρ : DL.Env} {st : S} {X : Cx} {e : Expr} {es : List Expr} {pos p : Pos} {B nw ini : String} {tl : List Value}
theorem fs_raiseG [Kd] {CX : CXT} {c : Str} {ns : List Str} {fI : Addr} {k : Nat} {fd : FuncData} {ps : List Str} {m : DL.Env → M Ex (List D)} {pos' : Pos} (b : XB B nw ini tl) (hK : X.K = g.K) (T : OexG g.K (g.cl c) nw tl) (iC : PySem.W.findIn g.K (.ref (g.cl c)) "__init__" = some (some (.ref fI))) (tI : PySem.W.typeIn g.K (.ref fI) = some (.type "function"))
    (F1 : FnOk X.prog X.w X.K X.mg X.base CX k fI fd ps (spX (g.cl c) ns)) (hr : Room (k + 1) X.A) (hb : Binds X.K fd ps []) (hx : Passes CX X (fun _ _ _ => False)) (hc : X.calm = true) (tk : Takes X W) (hg : Gl X c) (hm : X.mg c = some (.ref (g.cl c))) (hl : ns.length ≤ 900) (ha : FA g X W (e :: es) m)
    (hdb : (c == ("__debug__" : Str)) = false := by decide) (he : starEach (e :: es) X.env = (false, eval e X.env) :: starEach es X.env := by rfl) (hpl : (backTo pos (starEach es X.env)).any (·.1) = false := by rfl) :
    FS g X W (.Raise (some (.Call (.Name c p) (e :: es) [] pos)) none pos') (raiseS c ns m) := by
  rw [← hK] at T iC tI
  refine ⟨PS.imp (raiseB hc tk (pmk_g b T iC tI F1 hr hb .nil hx hg hm ha.pa hdb he hpl)) fun D σ H ⟨Z, F, st, ρ, E, N, q⟩ => ?_, mono_raiseS ha.mono⟩
  refine tS.go (R1 := RelDs g) N (ha.mono ρ) (fun _ => mono_ite (mono_raise _) mono_fail) q fun ds vs F st H1 e N r q => ?_
  by_cases hn : ds.length = ns.length
  · rw [if_pos hn] at q
    refine ⟨by rw [r.len, hn]; omega, fun a na => ⟨a, vs, by rw [List.append_nil], r.len.trans hn, upd_same, fun dx nd hd => ⟨rfl, dx, _, upd_same, by rw [upd_ne hd, upd_same], by rw [upd_ne hd] at nd; exact nd, ?_⟩⟩⟩
    rw [upd_ne hd] at nd
    rw [heap_x na hd]
    have s2 := same_upd (o := .xd (ns.zip vs).reverse) (N.sim.free nd).1
    have hlv : vs.length = ns.length := r.len.trans hn
    refine N.lk _ _ _ _ _ _ _ _ s2 (N.sim.new nd) (N.env.mono s2) ⟨rfl, .inr ⟨dx, _, rfl, upd_same, ?_, ?_⟩⟩ q
    · rw [List.map_reverse, List.map_fst_zip (Nat.le_of_eq hlv.symm)]
    · rw [List.map_reverse, List.map_snd_zip (Nat.le_of_eq hlv)]
      exact (r.mono s2).rev
  · rw [if_neg hn] at q
    exact q.elim
end
/-! facts -/
section
def oexOG (nw : String) (tl : List Value) (K : PySem.W.Frag) (C : Addr) : Bool := match K.lookup C with
  | some ⟨.type t, _, .cls cd, sl⟩ => decide (t = "type") && ((match cd.mro, sl.toList with
    | .ref C' :: bm, [_, _, _, _, some (.builtin n), _] => decide (C' = C) && (decide (n = nw) && PySem.W.excTail tl bm)
    | _, _ => false) && (cd.hasDict && !cd.hasDel))
  | _ => false
theorem oexOG_ok {nw : String} {tl : List Value} {K : PySem.W.Frag} {C : Addr} (h : oexOG nw tl K C = true) : ∃ n1 n2 a1 l1 l2 b1 b2 b3 b4 b5 z0 z1 z2 z3 z5, K.lookup C = some (excClassObj n1 n2 C a1 l1 l2 true b1 b2 b3 b4 b5 z0 z1 z2 z3 z5 nw) ∧ PySem.W.excTail tl l2 = true := by
  unfold oexOG at h
  split at h
  · rename_i t dd cd sl ho
    obtain ⟨h0, h⟩ := He.ba h
    obtain ⟨h1, hq⟩ := He.ba h
    obtain ⟨h2, h3⟩ := He.ba hq
    clear hq h
    split at h1
    · rename_i C' bm k0 k1 k2 k3 n k5 hm hs
      obtain ⟨a1, h1⟩ := He.ba h1
      obtain ⟨a2, a3⟩ := He.ba h1
      obtain ⟨nm, bs, mro, ns, qn, hd, sn, sub, ab, col, del⟩ := cd
      obtain ⟨sl⟩ := sl
      simp only at hm hs h2 h3
      have h3 : del = false := by simpa using h3
      have e0 := of_decide_eq_true h0
      have e1 := of_decide_eq_true a1
      have e2 := of_decide_eq_true a2
      subst hm hs h2 h3 e0 e1 e2
      exact ⟨_, _, _, _, _, _, _, _, _, _, _, _, _, _, _, ho, a3⟩
    · cases h1
  · cases h
def oexGB (nw : String) (tl : List Value) (K : PySem.W.Frag) (C : Addr) : Bool := oexOG nw tl K C && (decide (PySem.W.findIn K (.ref C) "__setattr__" = some (some (.builtin "object.__setattr__"))) && (decide (PySem.W.subIn K (.ref C) (.type "BaseException") = some true) && (decide (PySem.W.typeIn K (.ref C) = some (.type "type")) && PySem.W.keepIn K (.ref C))))
theorem oexGB_ok {nw : String} {tl : List Value} {K : PySem.W.Frag} {C : Addr} (h : oexGB nw tl K C = true) : OexG K C nw tl := by
  obtain ⟨h1, h⟩ := He.ba h
  obtain ⟨h2, h⟩ := He.ba h
  obtain ⟨h3, h⟩ := He.ba h
  obtain ⟨h4, h5⟩ := He.ba h
  exact ⟨oexOG_ok h1, of_decide_eq_true h2, of_decide_eq_true h3, of_decide_eq_true h4, h5⟩
def ginB (ini : String) (K : PySem.W.Frag) (c : Str) : Bool := match PySem.W.findCls K (.ref (He.ga K c)) (.type "type") "__init__" with
  | some (.val (.builtin b)) => decide (b = ini)
  | _ => false
theorem ginB_ok {ini : String} {K : PySem.W.Frag} {c : Str} (h : ginB ini K c = true) : PySem.W.findCls K (.ref (He.ga K c)) (.type "type") "__init__" = some (.val (.builtin ini)) := by
  unfold ginB at h
  split at h
  · rename_i b e
    rw [e, of_decide_eq_true h]
  · cases h
def gibB (T ini : String) (K : PySem.W.Frag) : Bool := match PySem.W.findCls K (.type T) (.type "type") "__init__" with
  | some (.val (.builtin b)) => decide (b = ini)
  | _ => false
theorem gibB_ok {T ini : String} {K : PySem.W.Frag} (h : gibB T ini K = true) : PySem.W.findCls K (.type T) (.type "type") "__init__" = some (.val (.builtin ini)) := by
  unfold gibB at h
  split at h
  · rename_i b e
    rw [e, of_decide_eq_true h]
  · cases h
abbrev tlLookup : List Value := [.type "LookupError", .type "Exception", .type "BaseException", .type "object"]
abbrev tlExc : List Value := [.type "Exception", .type "BaseException", .type "object"]
variable {P : Program} {w : World} {K : PySem.W.Frag} {mg : Str → Option Value} {base : Heap} {x qual : Str} {params : Arguments} {body : List Stmt} {scope : Scope} {f : Addr} {fd : FuncData} {N ps : List Str} {C : Addr} {f1 f2 m : Str} {B nw ini : String} {tl : List Value}
theorem okG1 (F : FunD K x qual params body scope [] [] f fd) (S : FnScope N ps scope) (hp : ps.length = 2) (T : OexG K C nw tl) (n1 : NoAttr K C f1) (hst : ∀ v0 v1, L2.start N [v0, v1] = [some v0, some v1])
    (hb : ∀ (cdv : Value) (A : Around) (outer : List PySem.Env) (s : Shared) (H : Hp) (E : XK), PSs (cxOf CX0 P w K mg base N qual scope f cdv A outer s H E).nox body (tSeq (tDrop (tGe K nw tl (tCons (tVar 0) (tCons (tC (.str m)) tNil)))) (tGst K nw tl f1 (tVar 0) (tVar 1)))) :
    FnOk P w K mg base CX0 1 f fd ps (spX C [f1]) := by
  refine okD0 F S (fun vs H Q E ⟨a, ws, e, hl, _⟩ => ?_) (fun cdv A outer s H vs Q E hr ⟨a, ws, e, hl, ea, q⟩ => ⟨_, hb cdv A outer s H E, ?_⟩)
  · subst e
    show ws.length + 1 = _
    rw [hl, hp]; rfl
  · subst e
    match ws, hl, q with
    | [y], _, q =>
      rw [hst]
      exact ⟨_, rfl, a, C, _, rfl, (show 1 ≤ 1000 by decide), T, ea, _, rfl, _, rfl, a, C, rfl, T, n1, .inl ⟨ea, fun dx nd hd => q dx nd hd⟩⟩
end
end DL

/-! ### the run of the top, looked at in parts, at places that are told -/
namespace DL
open PySem L2
section
variable {fb fb1 fb2 : List (PySem.W.Frag → Bool)} {fn fn1 fn2 : List Df} {ts ts1 ts2 : List He.Tab} {w : World} {K : PySem.W.Frag} {as : List Addr}
theorem obsN_app (h1 : obsN fb1 fn1 ts1 K = valN fn1 ts1 w) (h2 : obsN fb2 fn2 ts2 K = valN fn2 ts2 w) : obsN (fb1 ++ fb2) (fn1 ++ fn2) (ts1 ++ ts2) K = valN (fn1 ++ fn2) (ts1 ++ ts2) w := by
  unfold obsN valN at *
  simp only [Prod.mk.injEq, Bool.and_eq_true] at h1 h2 ⊢
  obtain ⟨⟨⟨a1, a2⟩, a3⟩, a4⟩ := h1
  obtain ⟨⟨⟨b1, b2⟩, b3⟩, b4⟩ := h2
  refine ⟨⟨⟨?_, ?_⟩, ?_⟩, ?_⟩
  · rw [List.all_append, a1, b1]; rfl
  · rw [List.all_append, a2, b2]; rfl
  · rw [List.map_append, List.map_append, a3, b3]
  · rw [List.map_append, List.map_append, a4, b4]
def obsL (as : List Addr) (fb : List (PySem.W.Frag → Bool)) (fn : List Df) (ts : List He.Tab) (g : Addr → Option Obj) : AlN := obsN fb fn ts (He.frG g as)
def hookL (as : List Addr) (fb : List (PySem.W.Frag → Bool)) (fn : List Df) (ts : List He.Tab) : PySem.W.Hook where
  α := AlN
  obs := fun s => obsL as fb fn ts s.heap.get?
  val := fun w => valN fn ts w
  says := fun w h => ∃ K : PySem.W.Frag, K.In h ∧ SaysN fb fn ts w K
  of := fun _ _ e => ⟨_, He.frG_in, e⟩
  keeps := fun _ _ _ ⟨K, hK, c⟩ k => ⟨K, PySem.W.Frag.In.keeps hK k, c⟩
theorem obsL_eq {g : Addr → Option Obj} {s : Shared} (h : ∀ a, g a = s.heap.get? a) : obsL as fb fn ts g = (hookL as fb fn ts).obs s := by
  have e : g = s.heap.get? := funext h
  rw [e] <;> rfl
def RunPart (X : Option PySem.W.SharedT) (as : List Addr) (fb : List (PySem.W.Frag → Bool)) (fn : List Df) (ts : List He.Tab) (w : World) : Prop := X.map (fun s => obsL as fb fn ts (HandSHeadRun.getT s)) = some (valN fn ts w)
theorem RunPart.app {X : Option PySem.W.SharedT} (h1 : RunPart X as fb1 fn1 ts1 w) (h2 : RunPart X as fb2 fn2 ts2 w) : RunPart X as (fb1 ++ fb2) (fn1 ++ fn2) (ts1 ++ ts2) w := by
  cases X with
  | none => cases h1
  | some s =>
    have e1 := Option.some.inj h1
    have e2 := Option.some.inj h2
    exact congrArg some (obsN_app e1 e2)
theorem run_join {r : PySem.W.OpenRow} {q : Program} {M : Nat} {loose : List PySem.Str}
    (h1 : ∀ os : OsState, (HandSHeadRun.endF (HandSHeadRun.stepQ (HandSHeadRun.denQ HandSHeadRun.tabQ) r.prog w) M r.prog w os).map (fun s => (HandSHeadRun.looksF r.prog (PySem.W.boot_heap w.params) s.abs, HandSHeadRun.seenQ q loose (PySem.importedModules r.prog.main.body) (fun s => PySem.W.xlAt q [] s && PySem.W.recOk r.toRowW.records s) s.abs)) = some (true, PySem.W.openGood q loose))
    (h2 : ∀ os : OsState, RunPart (HandSHeadRun.endF (HandSHeadRun.stepQ (HandSHeadRun.denQ HandSHeadRun.tabQ) r.prog w) M r.prog w os) as fb fn ts w) :
    HandSHeadRun.RunEq r q (hookL as fb fn ts) (fun s => obsL as fb fn ts (HandSHeadRun.getT s)) M loose w := fun os => by
  have z1 := h1 os
  have z2 := h2 os
  unfold RunPart at z2
  cases e : HandSHeadRun.endF (HandSHeadRun.stepQ (HandSHeadRun.denQ HandSHeadRun.tabQ) r.prog w) M r.prog w os with
  | none => rw [e] at z2; cases z2
  | some s =>
    rw [e] at z1 z2
    have e1 := Option.some.inj z1
    have e2 := Option.some.inj z2
    have f1 := congrArg Prod.fst e1
    have f2 := congrArg Prod.snd e1
    exact congrArg some (Prod.ext f1 (Prod.ext f2 e2))
end
end DL

/-! ### ("a", "b").index(x), sorted(ints) -/
namespace DL
open PySem L2
section
variable {g : G} {Z F F' H H' : Hp} {W : WX} {σ : St} {ρ : Env} {st : S} {X : Cx} {e e1 e2 : Expr} {to te : TE}
/-- (x, ..).m(y), the tuple a display -/
def tMT (r : V → List V → Hp → VK → Prop) (t : TA) (te : TE) : TE := fun σ H Q => t σ H fun xs H1 => xs.length ≤ sizeLine ∧ ∀ p, H1 p = none → te σ (upd H1 p (.tup xs)) fun y H2 => r (.ref p) [y] H2 Q
theorem pe_mT {es : List Expr} {x1 p2} {e : Expr} {id : String} {name : Str} {apos pos : Pos} {t : TA} {te : TE} {r : V → List V → Hp → VK → Prop} (slot : Slot "tuple" name id) (ty : typeOf (.builtin id) = pure (.type "method_descriptor")) (rule : MtR X id r) (ha : PA X es t) (he : PE X e te)
    (hs : starEach [e] X.env = [(false, eval e X.env)] := by rfl) (hbase : attributeBase (.Tuple es x1 p2) name X.env (eval (.Tuple es x1 p2) X.env) = eval (.Tuple es x1 p2) X.env := by rfl) (hline : (apos.endLine == pos.line) = true := by rfl) :
    PE X (.Call (.Attribute (.Tuple es x1 p2) name apos) [e] [] pos) (tMT r t te) := by
  refine ⟨fun pins s σ H Q I h => ?_⟩
  refine PySem.Call_method1 hbase hs hline ?_
  refine wpAny_Tuple_spliced (thn (ha.run p2 pins s σ H _ I h) fun us s1 ⟨xs, H1, I1, r1, z, q⟩ => ⟨by rw [← r1.length]; exact z, ?_⟩)
  have hf : H1 s1.heap.objs.size = none := I1.hok.fresh (Nat.le_refl _)
  have ho := Heap.get?_push_size s1.heap (o := ({ cls := .type "tuple", data := .seq us.toArray } : Obj)) rfl
  have I2 := I1.laid (o := .tup xs) (t' := s1.toks) (h' := s1.heap.push ({ cls := .type "tuple", data := .seq us.toArray } : Obj)) (fun b u e => Heap.get?_push_of_some _ e) (Nat.le_refl _) ⟨z, us, r1, ⟨_, ho, rfl, _, rfl⟩⟩
  refine ⟨"tuple", _, F.plainAttrs_tuple, slot, ty, ⟨_, ho, rfl⟩, (fun a e => by cases e; exact ⟨_, ho, rfl⟩), Calls.callWith_builtin rfl (Calls.evalArgs_plain (Calls.spliced_cons ?_))⟩
  exact thn (he.run pins _ σ _ _ I2 (q _ hf)) fun u s2 ⟨y, H2, I3, r2, q2⟩ => Calls.spliced_nil (rule pins s2 σ H2 (.ref s1.heap.objs.size) [y] _ [u] Q I3 rfl (.cons r2 .nil) q2)
def mT (f : P2) (a : Env → M Ex (List D)) (v : Env → M Ex D) : Env → M Ex D := fun ρ => bindM (a ρ) fun ds => bindM (needM (ds.length ≤ sizeLine)) fun _ => bindM (v ρ) fun y => seeM (f (.tup ds) y)
theorem mono_mT {f : P2} {a : Env → M Ex (List D)} {v : Env → M Ex D} (ha : ∀ ρ, Mono (a ρ)) (hv : ∀ ρ, Mono (v ρ)) (ρ : Env) : Mono (mT f a v ρ) := mono_bind (ha ρ) fun _ => mono_bind (mono_need _) fun _ => mono_bind (hv ρ) fun _ => mono_see _
theorem fe_mT {es : List Expr} {x1 p2} {id : String} {name : Str} {apos pos : Pos} {f : P2} {a : Env → M Ex (List D)} {v : Env → M Ex D} (slot : Slot "tuple" name id) (ty : typeOf (.builtin id) = pure (.type "method_descriptor")) (rule : MtR X id (rM1 g f)) (ha : FA g X W es a) (hv : FE g X W e2 v)
    (hs : starEach [e2] X.env = [(false, eval e2 X.env)] := by rfl) (hbase : attributeBase (.Tuple es x1 p2) name X.env (eval (.Tuple es x1 p2) X.env) = eval (.Tuple es x1 p2) X.env := by rfl) (hline : (apos.endLine == pos.line) = true := by rfl) :
    FE g X W (.Call (.Attribute (.Tuple es x1 p2) name apos) [e2] [] pos) (mT f a v) := by
  refine ⟨PE.imp (pe_mT slot ty rule ha.pa hv.pe hs hbase hline) fun σ H Q ⟨Z, F, st, ρ, E, N, q⟩ => ?_, mono_mT ha.mono hv.mono⟩
  refine tX.go (R1 := RelDs g) N (ha.mono ρ) (fun _ => mono_bind (mono_need _) fun _ => mono_bind (hv.mono ρ) fun _ => mono_see _) q fun ds vs F st H1 e1 N r q => ?_
  obtain ⟨hl, q⟩ := q
  refine ⟨by rw [r.len]; exact hl, fun p np => ?_⟩
  have s := same_upd (o := .tup vs) (N.sim.free np).1
  have rx : RelD g (upd F p (.tup vs)) (.tup ds) (.ref p) := by unfold RelD; exact ⟨p, vs, rfl, SqT.of upd_same, r.mono s⟩
  replace q := mono_bind (hv.mono ρ) (fun y => mono_see (f (.tup ds) y)) _ _ _ _ _ (fun d s1 (z : Res g (RelD g) Z F Q d s1) => z.mono s) (fun _ _ x => x) q
  refine tX.go (R1 := RelD g) (N.step s (N.sim.new np)) (hv.mono ρ) (fun _ => mono_see _) q fun dy y F st H2 e2 N ry q => ?_
  obtain ⟨d, ed, q⟩ := q
  exact ⟨y, rfl, _, F, st, .tup ds, dy, d, N.sim, rx.mono e2, ry, ed, q⟩
def idxS (z : Str) : List Str → Option Nat
  | [] => none
  | y :: ys => if y = z then some 0 else (idxS z ys).map (· + 1)
theorem idxS_ok {z : Str} : ∀ {ys : List Str} {j : Nat}, idxS z ys = some j → ys[j]? = some z ∧ ∀ m, m < j → ys[m]? ≠ some z
  | [], _, h => by cases h
  | y :: ys, j, h => by
    unfold idxS at h
    split at h
    · rename_i e
      cases h
      exact ⟨by rw [e]; rfl, fun m hm => absurd hm (Nat.not_lt_zero _)⟩
    · rename_i e
      obtain ⟨i, h1, rfl⟩ := Option.map_eq_some_iff.mp h
      obtain ⟨h2, h3⟩ := idxS_ok h1
      refine ⟨h2, fun m hm => ?_⟩
      cases m with
      | zero => intro hh; exact e (Option.some.inj hh)
      | succ m => exact h3 m (Nat.lt_of_succ_lt_succ hm)
def idxD : P2 := fun x y _ => match x, y with
  | .tup ds, .str z => (strsOf ds).bind fun ys => (idxS z ys).map fun j => .int (j : Nat)
  | _, _ => none
theorem mr_idx (hK : X.K = g.K) : MtR X "tuple.index" (rM1 g idxD) := MtR.imp mt_tup_index fun x xs H Q ⟨y, e, Z, F, st, dx, dy, d, sim, rx, ry, h, q⟩ => by
  unfold idxD at h
  split at h
  · rename_i ds z
    obtain ⟨ys, h1, h⟩ := Option.bind_eq_some_iff.mp h
    obtain ⟨j, h2, rfl⟩ := Option.map_eq_some_iff.mp h
    obtain ⟨h3, h4⟩ := idxS_ok h2
    unfold RelD at rx ry
    obtain ⟨a, us, rfl, h5, h6⟩ := rx
    obtain rfl := strsOf_rel h1 h6
    refine hK ▸ ?_
    exact ⟨a, ys, z, j, rfl, by rw [e, ry], sqT_mono sim.same h5, h3, h4, q _ F H (Same.refl _) sim relD_int⟩
  · cases h
def intsOf : List D → Option (List Int)
  | [] => some []
  | .int z :: ds => (intsOf ds).map fun r => z :: r
  | _ :: _ => none
theorem intsOf_rel : ∀ {ds : List D} {vs : List V} {ys : List Int}, intsOf ds = some ys → RelDs g F ds vs → vs = ys.map V.int
  | [], _, _, e, r => by cases e; exact r.nil_inv
  | d :: ds, _, _, e, r => by
    obtain ⟨v, vs, rfl, r1, r2⟩ := r.cons_inv
    cases d with
    | int z =>
      obtain ⟨ys, h1, rfl⟩ := Option.map_eq_some_iff.mp e
      unfold RelD at r1
      rw [r1, intsOf_rel h1 r2]; rfl
    | _ => cases e
theorem rel_zs (F : Hp) : ∀ ys : List Int, RelDs g F (ys.map .int) (ys.map V.int)
  | [] => .nil
  | y :: ys => .cons relD_int (rel_zs F ys)
def sortZ (ns : List Int) : List Int := ns.mergeSort (fun x y => decide (x ≤ y))
theorem sortZ_perm (ns : List Int) : (sortZ ns).Perm ns := List.mergeSort_perm _ _
theorem sortZ_rises (ns : List Int) : (sortZ ns).Pairwise (· ≤ ·) := by
  have h := List.pairwise_mergeSort (le := fun x y : Int => decide (x ≤ y)) (fun a b c h1 h2 => by simp only [decide_eq_true_eq] at *; omega) (fun a b => by simp only [Bool.or_eq_true, decide_eq_true_eq]; omega) ns
  exact h.imp fun hh => of_decide_eq_true hh
theorem sortZ_uniq {ns ms : List Int} (h : ms.Perm ns) (k : ms.Pairwise (· ≤ ·)) : ms = sortZ ns :=
  List.Perm.eq_of_pairwise (fun _ _ _ _ a b => Int.le_antisymm a b) k (sortZ_rises ns) (h.trans (sortZ_perm ns).symm)
def sortedF : PN := fun ds st => (one ds).bind fun d => (lstOf st d).bind fun xs => (intsOf xs).map fun ns => .lst ((sortZ ns).map .int)
theorem cr_sortedD (hK : X.K = g.K) : CallR X (.builtin "sorted") (rN g sortedF) := CallR.imp cr_sortedI fun vs H Q ⟨Z, F, st, ds, d, sim, r, ed, q⟩ => by
  obtain ⟨d1, h0, e⟩ := Option.bind_eq_some_iff.mp ed
  clear ed
  obtain ⟨xs, h1, e⟩ := Option.bind_eq_some_iff.mp e
  obtain ⟨ns, h2, rfl⟩ := Option.map_eq_some_iff.mp e
  cases one_inv h0
  obtain ⟨v, vs, rfl, r1, r2⟩ := r.cons_inv
  rw [r2.nil_inv, hK]
  obtain ⟨a, us, rfl, hs, hr⟩ := lst_of sim r1 h1
  obtain rfl := intsOf_rel h2 hr
  refine ⟨a, ns, rfl, SqL.of hs, fun ms l hp hl nl => ?_⟩
  cases sortZ_uniq hp hl
  have s := same_upd (o := .lst ((sortZ ns).map V.int)) (sim.free nl).1
  exact q _ _ _ s (sim.new nl) (by unfold RelD; exact ⟨l, _, rfl, upd_same, rel_zs _ _⟩)
/-! xs + ys, a new list that may change -/
def addLO (x y : D) (st : S) : Option (List D) := (lstOf st x).bind fun xs => (lstOf st y).bind fun ys => if xs.length + ys.length ≤ sizeLine then some (xs ++ ys) else none
def addLM (a b : Env → M Ex D) : Env → M Ex D := fun ρ => bindM (a ρ) fun x => bindM (b ρ) fun y => bindM (seeM (addLO x y)) fun xs => newM (.lst xs)
theorem mono_addLM {a b : Env → M Ex D} (ha : ∀ ρ, Mono (a ρ)) (hb : ∀ ρ, Mono (b ρ)) (ρ : Env) : Mono (addLM a b ρ) := mono_bind (ha ρ) fun _ => mono_bind (hb ρ) fun _ => mono_bind (mono_see _) fun _ => mono_new
theorem fe_addLM {a b : Env → M Ex D} {pos : Pos} (ha : FE g X W e1 a) (hb : FE g X W e2 b) : FE g X W (.BinOp e1 .Add e2 pos) (addLM a b) := by
  refine ⟨PE.imp (pe_op op_cat ha.pe hb.pe) fun σ H Q ⟨Z, F, st, ρ, E, N, q⟩ => ?_, mono_addLM ha.mono hb.mono⟩
  refine tX.go N (ha.mono ρ) (fun _ => mono_bind (hb.mono ρ) fun _ => mono_bind (mono_see _) fun _ => mono_new) q fun dx x F st H1 e N rx q => ?_
  refine tX.go (R1 := RelD g) N (hb.mono ρ) (fun _ => mono_bind (mono_see _) fun _ => mono_new) q fun dy y F2 st H2 e2 N ry q => ?_
  obtain ⟨xs, ed, q⟩ := q
  obtain ⟨as, h1, ed⟩ := Option.bind_eq_some_iff.mp ed
  obtain ⟨bs, h2, ed⟩ := Option.bind_eq_some_iff.mp ed
  split at ed
  · rename_i hl
    cases ed
    obtain ⟨a, vs, rfl, h3, r1⟩ := lst_of N.sim (rx.mono e2) h1
    obtain ⟨b, us, rfl, h4, r2⟩ := lst_of N.sim ry h2
    refine ⟨a, b, vs, us, rfl, rfl, h3, h4, by rw [r1.len, r2.len]; exact hl, fun p np => ?_⟩
    obtain ⟨nF, nS⟩ := N.sim.free np
    exact q p nS _ F2 _ (Same.refl _) (N.sim.put nF (.inl np) ⟨vs ++ us, upd_same, r1.append r2⟩) relD_ref
  · cases ed
end
section
variable {ρ : Env} {s : S} {Q : D → S → Prop} {E : Ex → S → Prop} {a b : Env → M Ex D} {xs ys : List D} {ns : List Int}
instance {f : P2} {o : Env → M Ex (List D)} {v : Env → M Ex D} [MB o] [MB v] : MB (mT f o v) := ⟨mono_mT MB.mono MB.mono⟩
instance {o v : Env → M Ex D} [MB o] [MB v] : MB (addLM o v) := ⟨mono_addLM MB.mono MB.mono⟩
theorem x_mT {q : P2} {as : Env → M Ex (List D)} : mT q as b ρ s Q E = as ρ s (fun ds s1 => ds.length ≤ sizeLine ∧ b ρ s1 (fun y s2 => ∃ v, q (.tup ds) y s2 = some v ∧ Q v s2) E) E := rfl
theorem x_addLM : addLM a b ρ s Q E = a ρ s (fun x s1 => b ρ s1 (fun y s2 => ∃ xs, addLO x y s2 = some xs ∧ ∀ a, s2.map a = none → Q (.ref a) (s2.set a (.lst xs))) E) E := rfl
theorem addLO_lst (h : xs.length + ys.length ≤ sizeLine) : addLO (.lst xs) (.lst ys) s = some (xs ++ ys) := if_pos h
theorem idxD_ok {zs : List Str} {z : Str} {j : Nat} (h : idxS z zs = some j) : idxD (.tup (zs.map .str)) (.str z) s = some (.int (j : Nat)) := by
  have e : ∀ zs : List Str, strsOf (zs.map D.str) = some zs := by
    intro zs
    induction zs with
    | nil => rfl
    | cons z zs ih => show (strsOf (zs.map D.str)).map _ = _; rw [ih]; rfl
  show ((strsOf (zs.map D.str)).bind fun ys => (idxS z ys).map fun j => D.int (j : Nat)) = _
  rw [e, Option.bind_some, h]; rfl
theorem sorted_ok : sortedF [.lst (ns.map .int)] s = some (.lst ((sortZ ns).map .int)) := by
  have e : ∀ ns : List Int, intsOf (ns.map D.int) = some ns := by
    intro ns
    induction ns with
    | nil => rfl
    | cons z zs ih => show (intsOf (zs.map D.int)).map _ = _; rw [ih]; rfl
  show ((intsOf (ns.map D.int)).map fun ns => D.lst ((sortZ ns).map .int)) = _
  rw [e]; rfl
end
end DL

namespace DL
def runs_D31 := And.intro @x_mT (@x_addLM)
end DL
/-! ### C.m(e, ..), a staticmethod; ** in calls: the model's part -/
namespace DL
open PySem L2
section
variable {g : G} {Z F F' H H' : Hp} {W : WX} {σ : St} {ρ : Env} {st : S} {X : Cx} {e e1 e2 : Expr} {es : List Expr} {pos : Pos} {k : Nat} {f : Addr} {m : Fn} {a : Env → M Ex (List D)}
/-- C.m is a staticmethod: its record at p, its def at g -/
structure CSta (K : PySem.W.Frag) (C : Addr) (mc : Value) (m : Str) (p g : Addr) : Prop where
  at_ : PySem.W.findCls K (.ref C) mc m = some (.get (.builtin "staticmethod.__get__") (.ref p) .none (.ref C))
  rc : ∃ rest, PySem.W.recIn K p "staticmethod" = some (.ref g :: rest)
  kp : PySem.W.keepIn K (.ref g) = true
def smFB (K : PySem.W.Frag) (c m : Str) : Bool := match PySem.W.findCls K (.ref (He.ga K c)) (.type "type") m with
  | some (.get (.builtin b) (.ref p) .none (.ref C)) => decide (b = "staticmethod.__get__") && (decide (p = He.ma K (He.ga K c) m) && decide (C = He.ga K c))
  | _ => false
theorem smFB_ok {K : PySem.W.Frag} {c m : Str} (h : smFB K c m = true) : PySem.W.findCls K (.ref (He.ga K c)) (.type "type") m = some (.get (.builtin "staticmethod.__get__") (.ref (He.ma K (He.ga K c) m)) .none (.ref (He.ga K c))) := by
  unfold smFB at h
  split at h
  · rename_i b p C e
    obtain ⟨h1, h⟩ := He.ba h
    obtain ⟨h2, h3⟩ := He.ba h
    rw [e, of_decide_eq_true h1, of_decide_eq_true h2, of_decide_eq_true h3]
  · cases h
def smAd (K : PySem.W.Frag) (c m : Str) : Addr := match PySem.W.recIn K (He.ma K (He.ga K c) m) "staticmethod" with
  | some (.ref f :: _) => f
  | _ => 0
def smOk (K : PySem.W.Frag) (c m : Str) : Bool := match PySem.W.recIn K (He.ma K (He.ga K c) m) "staticmethod" with
  | some (.ref _ :: _) => true
  | _ => false
theorem sm_rc {K : PySem.W.Frag} {c m : Str} (h : smOk K c m = true) : ∃ rest, PySem.W.recIn K (He.ma K (He.ga K c) m) "staticmethod" = some (.ref (smAd K c m) :: rest) := by
  unfold smOk at h
  unfold smAd
  split at h
  · rename_i f r e
    exact ⟨r, by rw [e]⟩
  · cases h
theorem fe_smeth [Kd] {c mn : Str} {mc : Value} {pp : Addr} {o : Expr} {pl : Sem Bool} {apos : Pos} (C : Cal g X.prog X.w X.K X.mg X.base k f [] m) (hM : MonoF m) (hr : Room k X.A) (tk : Takes X W) (ho : PE X o (tC (.ref (g.cl c)))) (hR : ClX.CRead X.K (g.cl c) mc) (hC : CSta X.K (g.cl c) mc mn pp f) (ha : FA g X W (e :: es) a)
    (hst : starEach (e :: es) X.env = (false, eval e X.env) :: starEach es X.env := by rfl) (hpl : ((backTo pos (starEach (e :: es) X.env)).any (·.1) || (backToKw pos (keywordEach [] X.env)).any (·.1.isNone)) = false := by rfl)
    (ht : eval (.Call (.Attribute o mn apos) (e :: es) [] pos) X.env = (do
      let ov ← eval o X.env
      standAt apos.atName
      let (f, first) ← holding [ov] (getMethod ov mn pl)
      callWith pos f first (backTo pos (starEach (e :: es) X.env)) (backToKw pos (keywordEach [] X.env))) := by rfl) :
    FE g X W (.Call (.Attribute o mn apos) (e :: es) [] pos) (callE m a argsN) := by
  refine ⟨⟨fun pins s σ H Q I ⟨Z, F, st, ρ, E, N, q⟩ => ?_⟩, mono_callE hM ha.mono fun _ => mono_pure _⟩
  refine PySem.W.methodCall_KW (pl := pl) (thn (ho.run pins s σ H (fun v H' => v = .ref (g.cl c) ∧ H' = H) I ⟨rfl, rfl⟩) fun u s1 ⟨v, H1, I1, rx, ex, eh⟩ => ?_) ht
  subst ex
  subst eh
  obtain rfl : u = Value.ref (g.cl c) := rx
  obtain ⟨rest, hp⟩ := hC.rc
  refine PySem.W.method_cls I1.kIn hR.ga (PySem.W.cls_bind I1.kIn hR.rd hC.at_ (wpAny_call (PySem.W.sm_get (s := { s1 with toks := s1.toks + 1 }) I1.kIn hp (PySem.W.handed_on rfl ?_))))
  have I2 : Inv X pins σ H1 { s1 with heap := s1.heap, toks := s1.toks + 1 } := I1.kept fun b u e => e
  refine PySem.W.callWith_KW (first := []) (h₀ := X.base) I2.ok.mod.kin hC.kp (by rfl) (thn (ha.pa.run pos pins _ σ H1 _ I2 (callGo hM ha fk_nil N q)) fun us s2 ⟨vs, H2, I3, r2, q2⟩ => ?_) hpl hst
  refine thn ((fk_nil (g := g) (X := X) (W := W)).pk.run pos pins s2 σ H2 _ I3 q2) fun ws s3 ⟨zs, H3, I4, rz, q3⟩ => ⟨I4.kIn, ?_⟩
  exact run_cal C hr tk I4 r2 rz q3
end
/-! ** in a call -/
section
variable {prog : Program} {w : World} {A : Around} {E : Value → Shared → Prop} {s : Shared}
theorem key_noref {k : Key} {v : Value} (h : (mixKind prog w).is k v = true) : (∃ x t, v = .str x t ∧ k = .inr x) ∨ ∃ i t, v = .int i t ∧ k = .inl i := by
  rcases keyIs_shape (show keyIs k v = true from h) with ⟨i, t, rfl, rfl⟩ | ⟨x, t, rfl, rfl⟩
  · exact .inr ⟨i, t, rfl, rfl⟩
  · exact .inl ⟨x, t, rfl, rfl⟩
theorem merge_new {d o : Addr} {kvs : List (Key × Value)} {Q : Unit → Shared → Prop} (hdo : d ≠ o) (hoS : (o == sysModules) = false) (hd : s.heap.DictOf (mixKind prog w) d []) (ho : s.heap.DictOf (mixKind prog w) o kvs) (hsz : kvs.length ≤ sizeLine)
    (hQ : ∀ h', h'.DictOf (mixKind prog w) d kvs → Heap.SameBut d s.heap h' → Q () { s with heap := h' }) : wpAny (model prog w) A (mergeMapping d (.ref o) true) Q E s := by
  obtain ⟨od, esd, epd, hod, hcd, hdd, hkd, hpd, hnd⟩ := id hd
  obtain ⟨oo, eso, epo, hoo, hco, hdo', hko, hpo, hno⟩ := id ho
  have ht : s.TypeIs (.ref o) "dict" := ⟨oo, hoo, hco.1⟩
  unfold mergeMapping
  refine wpAny_bind (wpAny_isInstance ht isSubtype_dict_dict ?_)
  rw [if_pos rfl]
  refine wpAny_bind (wpAny_specialOf ht F.slot_dict_iter.lookup ?_)
  dsimp only
  have e1 : (some (Value.builtin "dict.__iter__") == some (Value.builtin "dict.__iter__")) = true := by decide +kernel
  rw [e1]
  refine wpAny_bind (wpAny_pure ?_)
  dsimp only
  rw [if_neg (by rw [hoS]; exact Bool.false_ne_true)]
  refine wpAny_bind (wpAny_dictEntries hod hdd ?_)
  have e2 : esd = #[] := by
    have := hpd.length
    simpa using this
  subst e2
  rw [if_pos (by rfl)]
  refine wpAny_bind (wpAny_dictEntries hoo hdo' ?_)
  refine wpAny_bind ?_
  rw [← Array.forIn_toList]
  refine wpAny_forIn_list _ (fun rest _ s' => s' = s ∧ ∀ e ∈ rest, e ∈ eso.toList) _ ?_ ?_ _ _ ⟨rfl, fun _ h => h⟩
  · rintro x rest b s' ⟨rfl, hr⟩
    obtain ⟨k, hk, _⟩ := hko x (Array.mem_toList_iff.mp (hr x List.mem_cons_self))
    have hrest : ∀ e ∈ rest, e ∈ eso.toList := fun e he => hr e (List.mem_cons_of_mem _ he)
    rcases key_noref hk with ⟨z, t, e, _⟩ | ⟨i, t, e, _⟩
    · rw [e]; exact wpAny_pure ⟨rfl, hrest⟩
    · rw [e]; exact wpAny_pure ⟨rfl, hrest⟩
  rintro b s' ⟨rfl, -⟩
  refine wpAny_bind (wpAny_dictEntries hoo hdo' ?_)
  refine wpAny_bind (wpAny_dictEpoch hoo hdo' ?_)
  refine wpAny_bind ?_
  have hlen : kvs.length = eso.size := by rw [← hpo.length]; simp
  refine wpAny_forIn_list _ (fun rest _ s2 => ∃ h' i, s2 = { s' with heap := h' } ∧ rest = List.range' i (eso.size - i) ∧ i ≤ eso.size ∧ h'.DictOf (mixKind prog w) d (kvs.take i) ∧ h'.get? o = some oo ∧ Heap.SameBut d s'.heap h')
    _ ?_ ?_ _ _ ⟨s'.heap, 0, rfl, by rw [List.range_eq_range', Nat.sub_zero], Nat.zero_le _, by simpa using hd, hoo, Heap.SameBut.refl _ _⟩
  · rintro x rest b s2 ⟨h', i, rfl, hr, hi, hd', hoo', hs'⟩
    have hlt : i < eso.size := by
      rcases Nat.lt_or_ge i eso.size with h | h
      · exact h
      · rw [Nat.sub_eq_zero_of_le h] at hr; simp at hr
    obtain ⟨rfl, hrest⟩ : x = i ∧ rest = List.range' (i + 1) (eso.size - (i + 1)) := by
      have e : eso.size - i = (eso.size - (i + 1)) + 1 := by omega
      rw [e, List.range'_succ] at hr
      injection hr with h1 h2
      exact ⟨h1, h2⟩
    refine wpAny_bind (wpAny_dictEntries hoo' hdo' ?_)
    rw [Array.getElem?_eq_getElem hlt]
    obtain ⟨kv, hkv⟩ : ∃ kv, kvs[x]? = some kv := ⟨kvs[x]'(by rw [hlen]; exact hlt), List.getElem?_eq_getElem _⟩
    obtain ⟨k, v⟩ := kv
    obtain ⟨hkey, hval⟩ := hpo.get? (e := eso[x]) (by simp [hlt]) hkv
    obtain ⟨k', hkey', hhash⟩ := hko eso[x] (Array.getElem_mem hlt)
    obtain rfl : k' = k := (mixKind prog w).inj _ _ _ hkey' hkey
    dsimp only
    rw [hhash, hval, if_pos rfl]
    have hnew : k' ∉ (kvs.take x).map (·.1) := by
      intro hm
      obtain ⟨kv, hkv2, rfl⟩ := List.mem_map.mp hm
      obtain ⟨j, hj, hjx⟩ := List.getElem_of_mem hkv2
      rw [List.getElem_take] at hjx
      rw [List.length_take] at hj
      have hxl := (List.getElem?_eq_some_iff.mp hkv)
      have h1 : (kvs.map (·.1))[j]'(by rw [List.length_map]; omega) = (kvs.map (·.1))[x]'(by rw [List.length_map]; exact hxl.1) := by
        rw [List.getElem_map, List.getElem_map, hjx, hxl.2]
      exact List.pairwise_iff_getElem.mp hno j x _ _ (by omega) h1
    obtain ⟨od', es', ep', hod', hcd', hdd', hkd', hpd', hnd'⟩ := id hd'
    have hidx : (es'.findIdx? fun e => (mixKind prog w).is k' e.key) = none := by
      have : (es'.toList.findIdx? fun e => (mixKind prog w).is k' e.key) = none := by
        rw [hpd'.findIdx, List.findIdx?_eq_none_iff]
        intro kv hkv3
        refine decide_eq_false fun e => hnew ?_
        rw [← e]; exact List.mem_map_of_mem hkv3
      simpa using this
    have hes : es'.size ≤ sizeLine := by
      have e1 := hpd'.length
      have e2 : es'.toList.length = es'.size := by simp
      rw [List.length_take] at e1
      omega
    refine wpAny_bind (wpAny_holding (wpAny_bind (wpAny_dictFind_of hkey hod' hdd' hkd' ?_)))
    rw [hidx, if_neg (by simp)]
    refine wpAny_bind (wpAny_dictFind_of hkey hod' hdd' hkd' ?_)
    rw [hidx]
    dsimp only
    have hds : (h'.update d (Obj.mapDictKeys fun x_1 => x_1.push ⟨(mixKind prog w).hash k', eso[x].key, v⟩)).DictOf (mixKind prog w) d (kvs.take (x + 1)) := by
      refine ⟨_, _, ep' + 1, Heap.get?_update_self _ hod' (Obj.isFreed_of_dict (Obj.data_mapDictKeys hdd' _)), hcd'.mapDictKeys _, Obj.data_mapDictKeys hdd' _, hkd'.push hkey _, ?_, ?_⟩
      · rw [List.take_succ, hkv]
        have := hpd'.append hkey ((mixKind prog w).hash k') v
        obtain ⟨l⟩ := es'
        simpa using this
      · exact (List.Nodup.sublist (List.Sublist.map _ (List.take_sublist _ _)) hno)
    have hsb : Heap.SameBut d h' (h'.update d (Obj.mapDictKeys fun x_1 => x_1.push ⟨(mixKind prog w).hash k', eso[x].key, v⟩)) := Heap.SameBut.update ..
    refine wpAny_updateDictKeys (hz := hes) hod' hdd' ?_
    have hoo'' := (hsb.2 o (Ne.symm hdo)).trans hoo'
    refine wpAny_bind (wpAny_dictEpoch hoo'' hdo' ?_)
    rw [if_neg (by simp)]
    exact wpAny_pure ⟨_, x + 1, rfl, hrest, hlt, hds, hoo'', hs'.trans hsb⟩
  · rintro b s2 ⟨h', i, rfl, hr, hi, hd', hoo', hs'⟩
    have hin : i = eso.size := by
      rcases Nat.lt_or_ge i eso.size with h | h
      · have e : eso.size - i = (eso.size - (i + 1)) + 1 := by omega
        rw [e, List.range'_succ] at hr
        cases hr
      · omega
    refine wpAny_pure (hQ _ ?_ hs')
    rw [List.take_of_length_le (by omega)] at hd'
    exact hd'

end
end DL

/-! ### def f(.., **d); o.m(**x), C(**x) -/
namespace DL
open PySem L2
section
variable {prog : Program} {w : World} {A : Around} {E : Value → Shared → Prop} {s : Shared}
theorem isStr_shape {v : Value} {k : Str} (h : v.isStr k = true) : ∃ t, v = .str k t := by
  cases v with
  | str x t =>
    have : (x == k) = true := h
    exact ⟨t, by rw [beq_iff_eq.mp this]⟩
  | _ => cases h
theorem nsSet_dict {d : Addr} {kvs : List (Key × Value)} {k : Str} {v : Value} {Q : Unit → Shared → Prop} (hd : s.heap.DictOf (mixKind prog w) d kvs) (hk : Sum.inr k ∉ kvs.map (·.1))
    (hQ : ∀ h', h'.DictOf (mixKind prog w) d (kvs ++ [(.inr k, v)]) → Heap.SameBut d s.heap h' → Q () { s with heap := h', toks := s.toks + 1 }) : wpAny (model prog w) A (nsSet d k v) Q E s := by
  obtain ⟨o, es, ep, ho, hc, hdt, hkd, hp, hn⟩ := id hd
  have hs : ∀ e ∈ es.toList, e.key.isStr k = false := fun e he => by
    obtain ⟨k', h1, h2⟩ := hkd e (Array.mem_toList_iff.mp he)
    rcases key_noref h1 with ⟨z, t, e1, e2⟩ | ⟨i, t, e1, e2⟩
    · rw [e1]
      show (z == k) = false
      refine beq_eq_false_iff_ne.mpr fun q => hk ?_
      subst q
      have hi := hp.findIdx (.inr z)
      cases hf : (es.toList.findIdx? fun e => (mixKind prog w).is (.inr z) e.key) with
      | none =>
        rw [List.findIdx?_eq_none_iff] at hf
        have := hf e he
        rw [e2] at h1
        rw [h1] at this
        cases this
      | some j =>
        rw [hf] at hi
        obtain ⟨kv, h3, h4⟩ : ∃ kv, kv ∈ kvs ∧ kv.1 = .inr z := by
          have := List.findIdx?_eq_some_iff_getElem.mp hi.symm
          obtain ⟨hj, h3, _⟩ := this
          exact ⟨kvs[j], List.getElem_mem hj, of_decide_eq_true h3⟩
        rw [← h4]; exact List.mem_map_of_mem h3
    · rw [e1]; rfl
  have hr : ∀ e ∈ es.toList, e.refKey = false := fun e he => by
    obtain ⟨k', h1, h2⟩ := hkd e (Array.mem_toList_iff.mp he)
    rcases key_noref h1 with ⟨z, t, e1, e2⟩ | ⟨i, t, e1, e2⟩ <;> (unfold DictEntry.refKey; rw [e1])
  have e1 : es.toList.any (·.key.isStr k) = false := by
    cases q : es.toList.any (·.key.isStr k) with
    | false => rfl
    | true => obtain ⟨e, he, z⟩ := List.any_eq_true.mp q; rw [hs e he] at z; cases z
  have e2 : es.toList.any (·.refKey) = false := by
    cases q : es.toList.any (·.refKey) with
    | false => rfl
    | true => obtain ⟨e, he, z⟩ := List.any_eq_true.mp q; rw [hr e he] at z; cases z
  obtain ⟨c, dd, dt, sl⟩ := o
  obtain ⟨hc1, hc2, hc3⟩ := hc
  simp only at hc1 hc2 hc3 hdt
  subst hc1 hc2 hc3 hdt
  have c : aRefKeyMayBeTheName k es = false := by
    rw [aRefKeyMayBeTheName_at, ← Array.any_toList, ← Array.any_toList]
    show (!es.toList.any (·.key.isStr k) && es.toList.any (·.refKey)) = false
    rw [e2, Bool.and_false]
  unfold nsSet
  refine wpAny_bind (wpAny_bind (wpAny_askSetting (wpAny_pure (wpAny_bind (wpAny_mkText (wpAny_bind (wpAny_loadPart ho ?_)))))))
  dsimp only
  rw [c]
  have ho2 : s.heap.get? d = some (PySem.W.dictOf es.toList ep) := ho
  have e : Obj.putName k (PyData.keyHash w.params k) (.str k s.toks) v (PySem.W.dictOf es.toList ep) = PySem.W.dictOf (es.toList ++ [⟨PyData.keyHash w.params k, .str k s.toks, v⟩]) (ep + 1) := by
    rw [PySem.W.putName_dict, PySem.W.putL_new hs]
    show PySem.W.dictOf _ (if es.toList.any (·.key.isStr k) then ep else ep + 1) = _
    rw [e1, if_neg Bool.false_ne_true]
  refine wpAny_updatePart (o := PySem.W.dictOf es.toList ep) ho2 (hQ _ ?_ (Heap.SameBut.update ..))
  show Heap.DictOf _ (s.heap.update d (Obj.putName k (PyData.keyHash w.params k) (.str k s.toks) v)) d _
  have hg := Heap.get?_update_self (Obj.putName k (PyData.keyHash w.params k) (.str k s.toks) v) ho2 (by rw [e]; rfl)
  rw [e] at hg
  refine ⟨_, (es.toList ++ [(⟨PyData.keyHash w.params k, .str k s.toks, v⟩ : DictEntry)]).toArray, ep + 1, hg, ⟨rfl, rfl, rfl⟩, rfl, ?_, ?_, ?_⟩
  · intro x hx
    rcases List.mem_append.mp (List.mem_toArray.mp hx) with h | h
    · exact hkd x (Array.mem_toList_iff.mp h)
    · rw [List.mem_singleton.mp h]
      exact ⟨Sum.inr k, keyIs_str k s.toks, rfl⟩
  · have hk0 : (mixKind prog w).is (Sum.inr k) (.str k s.toks) = true := keyIs_str k s.toks
    simpa using hp.append hk0 (PyData.keyHash w.params k) v
  · rw [List.map_append, List.nodup_append]
    refine ⟨hn, by simp, fun a ha b hb => ?_⟩
    simp only [List.map_cons, List.map_nil, List.mem_singleton] at hb
    subst hb
    exact fun e => hk (e ▸ ha)
abbrev inrP (ex : List (Str × Value)) : List (Key × Value) := ex.map fun x => (Sum.inr x.1, x.2)
theorem fill_dict {d : Addr} {Q : PUnit → Shared → Prop} : ∀ (ex : List (Str × Value)) (kvs : List (Key × Value)) (s : Shared), s.heap.DictOf (mixKind prog w) d kvs → (kvs.map (·.1) ++ (inrP ex).map (·.1)).Nodup →
    (∀ h' tk, h'.DictOf (mixKind prog w) d (kvs ++ inrP ex) → Heap.SameBut d s.heap h' → Q ⟨⟩ { s with heap := h', toks := tk }) →
    wpAny (model prog w) A (forIn ex PUnit.unit fun x _ => (nsSet d x.1 x.2 >>= fun _ => pure (ForInStep.yield PUnit.unit))) Q E s
  | [], kvs, s, hd, hn, hQ => by
    rw [List.forIn_nil]
    refine wpAny_pure (hQ s.heap s.toks ?_ (Heap.SameBut.refl _ _))
    simpa using hd
  | x :: r, kvs, s, hd, hn, hQ => by
    rw [List.forIn_cons]
    have hx : Sum.inr x.1 ∉ kvs.map (·.1) := fun hm => by
      have := (List.nodup_append.mp hn).2.2 _ hm (Sum.inr x.1) (by simp)
      exact this rfl
    refine wpAny_bind (wpAny_bind (nsSet_dict hd hx fun h' hd' hs => wpAny_pure ?_))
    refine fill_dict r (kvs ++ [(.inr x.1, x.2)]) { s with heap := h', toks := s.toks + 1 } hd' ?_ fun h'' tk hd'' hs'' => ?_
    · simpa using hn
    · refine hQ h'' tk ?_ (hs.trans hs'')
      simpa using hd''
theorem filter_zip : ∀ {ps : List Str} {us : List Value}, us.length = ps.length → ps.Nodup → (List.filterMap (fun n => Option.map (fun x => (n, x)) (List.lookup n (ps.zip us))) ps) = ps.zip us
  | [], [], _, _ => rfl
  | p :: ps, u :: us, hl, hn => by
    obtain ⟨h1, h2⟩ := List.nodup_cons.mp hn
    have ih := filter_zip (ps := ps) (us := us) (by simpa using hl) h2
    rw [List.zip_cons_cons, List.filterMap_cons]
    have e1 : List.lookup p ((p, u) :: ps.zip us) = some u := by simp
    rw [e1]
    simp only [Option.map_some]
    congr 1
    have go : ∀ l : List Str, (∀ n ∈ l, n ≠ p) → List.filterMap (fun n => Option.map (fun x => (n, x)) (List.lookup n ((p, u) :: ps.zip us))) l = List.filterMap (fun n => Option.map (fun x => (n, x)) (List.lookup n (ps.zip us))) l := by
      intro l
      induction l with
      | nil => intro _; rfl
      | cons n l ihl =>
        intro h
        have hne : (n == p) = false := beq_eq_false_iff_ne.mpr (h n List.mem_cons_self)
        rw [List.filterMap_cons, List.filterMap_cons, ihl fun m hm => h m (List.mem_cons_of_mem _ hm), List.lookup_cons, hne]
    rw [go ps fun n hm e => h1 (e ▸ hm)]
    exact ih
theorem inrP_nodup {ex : List (Str × Value)} (hn : (ex.map (·.1)).Nodup) : ((inrP ex).map (·.1)).Nodup := by
  have e : (inrP ex).map (·.1) = (ex.map (·.1)).map Sum.inr := by rw [List.map_map, List.map_map]; rfl
  rw [e]
  exact List.Pairwise.map _ (fun a b h e => h (Sum.inr.inj e)) hn
theorem bind_kwd {fd : FuncData} {ps : List Str} {a : Arg} {us : List Value} {ex : List (Str × Value)} {Q : List (Str × Value) → Shared → Prop} (h1 : fd.params.posonlyargs = []) (h2 : fd.params.args.map (·.arg) = ps) (h3 : fd.params.kwonlyargs = []) (h4 : fd.params.vararg = none) (h5 : fd.params.kwarg = some a) (h6 : fd.defaults = .none)
    (hl : us.length = ps.length) (hps : ps.Nodup) (hx : ∀ x ∈ ex, x.1 ∉ ps) (hn : (ex.map (·.1)).Nodup) (hz : ex.length ≤ sizeLine)
    (hQ : ∀ h' tk, h'.DictOf (mixKind prog w) s.heap.objs.size (inrP ex) → (∀ b o, s.heap.get? b = some o → h'.get? b = some o) → Q (ps.zip us ++ [(a.arg, .ref s.heap.objs.size)]) { s with heap := h', toks := tk }) :
    wpAny (model prog w) A (bindArgs fd ⟨us, ex⟩) Q E s := by
  unfold bindArgs
  simp only [h1, h2, h3, h4, h5, h6, List.map_nil, List.nil_append, List.append_nil]
  refine wpAny_bind (wpAny_forIn_list _ (fun rest b s' => s' = s ∧ b.1 = ps.zip us ∧ b.2 ++ rest = ex) _ ?_ ?_ _ _ ⟨rfl, rfl, rfl⟩)
  · rintro x rest ⟨b1, b2⟩ s' ⟨rfl, rfl, hb⟩
    have hm : x ∈ ex := by rw [← hb]; simp
    have e1 : (ps.contains x.1 || ([] : List Str).contains x.1) = false := by simp [hx x hm]
    rw [e1, if_neg Bool.false_ne_true, if_pos (by rfl)]
    refine wpAny_pure ⟨rfl, rfl, ?_⟩
    rw [← hb]; simp
  rintro ⟨b1, b2⟩ s' ⟨rfl, rfl, hb⟩
  rw [List.append_nil] at hb
  dsimp only at hb
  subst hb
  have e0 : (seqItems? Value.none : Sem (Option (Array Value))) = pure none := rfl
  rw [e0]
  refine wpAny_bind (wpAny_pure ?_)
  have e2 : (decide (us.length > ps.length) && (none : Option Arg).isNone) = false := by rw [decide_eq_false (by omega)]; rfl
  rw [e2, if_neg Bool.false_ne_true]
  have hfind : ∀ n ∈ ps, (List.lookup n (ps.zip us)).isSome = true := by
    intro n hm
    rw [Option.isSome_iff_ne_none]
    intro h0
    rw [List.lookup_eq_none_iff] at h0
    obtain ⟨j, hj, rfl⟩ := List.getElem_of_mem hm
    have := h0 (ps[j], us[j]'(by omega)) (by rw [List.mem_iff_getElem]; exact ⟨j, by simp; omega, by simp⟩)
    simp at this
  have e3 : (List.filter (fun n => (List.lookup n (ps.zip us)).isNone) ps) = [] := by
    rw [List.filter_eq_nil_iff]
    intro n hm h
    have := hfind n hm
    cases hh : List.lookup n (ps.zip us) with
    | none => rw [hh] at this; cases this
    | some v => rw [hh] at h; cases h
  have e4 : (((none : Option (Array Value)).getD #[]).toList) = [] := rfl
  simp only [e4, List.drop_nil, List.length_nil, Nat.sub_zero, List.take_length, e3, List.isEmpty_nil, Bool.not_true, Bool.false_eq_true, if_false, List.zip_nil_right, List.forIn_nil, pure_bind]
  rw [if_neg (by omega)]
  refine wpAny_bind (wpAny_alloc ?_)
  have e5 : (List.filterMap (fun n => Option.map (fun x => (n, x)) (List.lookup n (ps.zip us))) ps) = ps.zip us := filter_zip hl hps
  rw [e5]
  refine wpAny_bind (fill_dict b2 [] _ (Heap.DictOf.new _) (by rw [List.map_nil, List.nil_append]; exact inrP_nodup hn) fun h' tk hd hs => wpAny_pure ?_)
  refine hQ h' tk (by simpa using hd) fun b o h => ?_
  have hne : b ≠ s'.heap.objs.size := Nat.ne_of_lt (Heap.lt_size h)
  exact (hs.2 b hne).trans (Heap.get?_push_of_some _ h)
end
section
variable {P : Program} {w : World} {K : PySem.W.Frag} {mg : Str → Option Value} {base : Heap} {A : Around} {outer : List PySem.Env} {s : Shared} {H : Hp} {g : G} {Z F : Hp} {W : WX}
theorem env0_ext {h' : Heap} {tk : Tok} {u : HO} (e0 : Env0 P w K mg base A outer s H) (kp : ∀ b x, s.heap.get? b = some x → h'.get? b = some x) (hd : ∃ o, h'.get? s.heap.objs.size = some o) (new : ObjOk P w (upd H s.heap.objs.size u) h' s.heap.objs.size u) :
    Env0 P w K mg base A outer { s with heap := h', toks := tk } (upd H s.heap.objs.size u) := by
  refine ⟨e0.frames, e0.mod, fun b x e => ⟨kp b x (e0.bs b x e).1, ?_⟩, ?_, Heap.FunFrames.of_keeps (fun b x e _ => ⟨x, kp b x e, rfl⟩) e0.funs, fun b hb => ?_, e0.hok.laid kp (Nat.le_refl _) new, e0.bare⟩
  · rw [upd_ne (Nat.ne_of_lt (Heap.lt_size (e0.bs b x e).1))]
    exact (e0.bs b x e).2
  · obtain ⟨o, ho⟩ := hd
    exact Nat.le_trans e0.bsz (Nat.le_of_lt (Heap.lt_size ho))
  · obtain ⟨_, x, hx, _⟩ := e0.funs.mem hb
    rw [upd_ne (Nat.ne_of_lt (Heap.lt_size hx))]
    exact e0.frf b hb
theorem kv_zip : ∀ {ks : List Str} {zs : List V} {ws : List Value}, Vals zs ws → KV ((ks.map Sum.inr).zip zs : List (Key × V)) (inrP (ks.zip ws))
  | [], _, _, _ => .nil
  | _ :: _, _, _, .nil => .nil
  | k :: ks, _, _, .cons r t => .cons ⟨rfl, r⟩ (kv_zip t)
/-- keywords into a new dict, the last parameter -/
def kdF (ps ks : List Str) (m : List D → M Ex D) : Fn := fun ds es => if ds.length = ps.length ∧ es.length = ks.length ∧ ks.length ≤ sizeLine ∧ ks.Nodup ∧ (∀ x ∈ ks, x ∉ ps) then bindM (newM (.dic ((ks.map Sum.inr).zip es))) fun d => m (ds ++ [d]) else failM
theorem mono_kdF {ps ks : List Str} {m : List D → M Ex D} (h : ∀ ds, Mono (m ds)) : MonoF (kdF ps ks m) := fun ds es => mono_ite (mono_bind mono_new fun _ => h _) mono_fail
theorem fn_okK [Kd] {x qual : Str} {pa : Arg} {params : Arguments} {body : List Stmt} {scope : Scope} {f : Addr} {fd : FuncData} {N ps : List Str} {k n : Nat} {b : Env → MS} [MB b]
    (Fu : FunD K x qual params body scope [] [] f fd) (Sc : FnScope N (ps ++ [pa.arg]) scope) (hn : N.length = n)
    (p1 : params.posonlyargs = []) (p2 : params.args.map (·.arg) = ps) (p3 : params.kwonlyargs = []) (p4 : params.vararg = none) (p5 : params.kwarg = some pa) (hps : ps.Nodup)
    (hb : ∀ (cdv : Value) (A : Around) (outer : List PySem.Env) (s : Shared) (H : Hp) (E : XK), Room k (A.deeper (PyProof.Rows.envOfC qual scope s.heap.objs.size f cdv)) → Takes (cxOf (XCX P w) P w K mg base N qual scope f cdv A outer s H E) (fun u d _ H => E u d H) →
      FB g (cxOf (XCX P w) P w K mg base N qual scope f cdv A outer s H E) (fun u d _ H => E u d H) body b) (ks : List Str) : Cal g P w K mg base (k + 1) f ks (kdF ps ks (defM n b)) := by
  obtain ⟨oc, od, dV, kV, doc, pm, an, cdv, ct, osl, rfl, lk, hcd, hd1, hd2⟩ := Fu.ex
  have hdV : dV = .none := by
    rcases hd1 with ⟨_, h⟩ | ⟨h, _⟩
    · exact h
    · exact (h rfl).elim
  intro A outer s H us ws vs zs Q E room env r rz ⟨Z, F, st, ds, es, sim, h1, h2, q⟩
  replace q : (if ds.length = ps.length ∧ es.length = ks.length ∧ ks.length ≤ sizeLine ∧ ks.Nodup ∧ (∀ x ∈ ks, x ∉ ps) then bindM (newM (.dic ((ks.map Sum.inr).zip es))) fun d => defM n b (ds ++ [d]) else failM) st (Res g (RelD g) Z F Q) (excD g Z F E) := q
  by_cases hj : ds.length = ps.length ∧ es.length = ks.length ∧ ks.length ≤ sizeLine ∧ ks.Nodup ∧ (∀ x ∈ ks, x ∉ ps)
  · rw [if_pos hj] at q
    obtain ⟨j1, j2, j3, j4, j5⟩ := hj
    have l1 : us.length = ps.length := by rw [← r.length, h1.len]; exact j1
    have l2 : ws.length = ks.length := by rw [← rz.length, h2.len]; exact j2
    have l3 : zs.length = ks.length := by rw [h2.len]; exact j2
    have hfr : H s.heap.objs.size = Option.none := env.hok.fresh (Nat.le_refl _)
    refine StX.run_bnd lk hcd Sc room env (G := fun xs H2 => ∃ d, H d = Option.none ∧ xs = vs ++ [V.ref d] ∧ H2 = upd H d (.dK ((ks.map Sum.inr).zip zs))) (fun A' Ex Q' h => ?_) fun s2 H2 xs ⟨d, hd, ex, eH⟩ hr' => ?_
    · have ek : (ks.zip ws).map (·.1) = ks := by rw [List.map_fst_zip]; omega
      refine bind_kwd (ps := ps) (a := pa) p1 p2 p3 p4 p5 hdV l1 hps (fun x hx => j5 _ (List.of_mem_zip hx).1) (by rw [ek]; exact j4) (by rw [List.length_zip]; omega) fun h' tk hd kp => ?_
      have hfree : (s.heap.objs.size == sysModules) = false := beq_eq_false_iff_ne.mpr (Ne.symm (Nat.ne_of_lt (StX.env0_big env)))
      have new : ObjOk P w (upd H s.heap.objs.size (.dK ((ks.map Sum.inr).zip zs))) h' s.heap.objs.size (.dK ((ks.map Sum.inr).zip zs)) := ⟨by rw [List.length_zip, List.length_map]; omega, hfree, _, kv_zip rz, hd⟩
      have e1 := env0_ext (tk := tk) env kp (let ⟨o, _, _, ho, _⟩ := hd; ⟨o, ho⟩) new
      have un : Un (frs outer) [] H (upd H s.heap.objs.size (.dK ((ks.map Sum.inr).zip zs))) s.heap h' := Un.laid kp (Nat.le_refl _) hfr
      have z := h { s with heap := h', toks := tk } _ (vs ++ [V.ref s.heap.objs.size]) (us ++ [Value.ref s.heap.objs.size]) e1 un rfl (fun e s' => cxUp outer s H _ _ E e s' un kp rfl) (r.append (.cons rfl .nil)) (by rw [List.length_append, List.length_append, r.length, l1] <;> rfl) ⟨_, hfr, rfl, rfl⟩
      rw [List.zip_append l1.symm] at z
      exact z
    · subst ex eH
      obtain ⟨nF, nS⟩ := sim.free hd
      have q1 := q d nS
      have hkeys : ((ks.map Sum.inr).zip zs : List (Key × V)).map (·.1) = ((ks.map Sum.inr).zip es : List (Key × D)).map (·.1) := by
        rw [List.map_fst_zip (by rw [List.length_map]; omega), List.map_fst_zip (by rw [List.length_map]; omega)]
      have hvals : RelDs g F (((ks.map Sum.inr).zip es : List (Key × D)).map (·.2)) (((ks.map Sum.inr).zip zs : List (Key × V)).map (·.2)) := by
        rw [List.map_snd_zip (by rw [List.length_map]; omega), List.map_snd_zip (by rw [List.length_map]; omega)]
        exact h2
      have sim2 := sim.put (ob := .dic ((ks.map Sum.inr).zip es)) nF (.inl hd) ⟨(ks.map Sum.inr).zip zs, upd_same, hkeys, hvals⟩
      refine ⟨_, (hb cdv A outer s2 _ E hr' (takes_of rfl rfl rfl rfl)).ps, ?_⟩
      have rel : RelDs g F (ds ++ [.ref d]) (vs ++ [V.ref d]) := h1.append (.one relD_ref)
      refine ⟨Z, F, _, _, fun x _ s => ∀ u d F' H', Same F F' → Sim g Z s F' H' → RelEx g F' u d x → E u d H', ⟨sim2, renv_start rel n hn, fun x ρ st' F' H' u d σ e sim' _ rx h => h u d F' H' e sim' rx⟩, ?_⟩
      refine (hb cdv A outer s2 (upd H d (.dK ((ks.map Sum.inr).zip zs))) E hr' (takes_of rfl rfl rfl rfl)).mono _ _ _ _ _ _ (fun fl s' h => ?_) (fun _ _ h => h) q1
      cases fl with
      | nx ρ' => exact fun σ' F' H' e sim' _ => h .non F' H' e sim' relD_non
      | rt d => exact h
      | bk _ => exact h.elim
      | ct _ => exact h.elim
  · rw [if_neg hj] at q; exact q.elim
end
end DL

/-! ### o.m(**x), C(**x) -/
namespace DL
open PySem L2
section
variable {prog : Program} {w : World} {A : Around} {E : Value → Shared → Prop} {s : Shared} {M : Model}
theorem ksd_call {f : Value} {first : List Value} {pos : Pos} {Q : Value → Shared → Prop} {P : Heap → Prop} {args : List (Bool × Sem Value)} {kws : List (Option Str × Sem Value)} (hst : (args.any (·.1) || kws.any (·.1.isNone)) = true)
    (hk : ∀ h, P h → ∃ k, (k = Keeper.frame ∨ k = Keeper.machine ∨ k = Keeper.boundFrame) ∧ PySem.W.Looks M h (keeperOf f) k)
    (h : wpAny M A (evalArgs f true args kws) (fun a s₁ => P s₁.heap ∧ wpAny M A (call f (first ++ a.pos) a.kw) Q E s₁) E s) : wpAny M A (callWith pos f first args kws) Q E s := by
  unfold callWith
  refine wpAny_bind (wpAny_holding (wpAny_mono h (fun a s₁ h₁ => wpAny_bind (wpAny_standAt ?_)) fun _ _ x => x))
  obtain ⟨k, hk', L⟩ := hk _ h₁.1
  simp only [hst]
  refine wpAny_bind (L.here ?_)
  have tail : ∀ {t : Sem Value}, wpAny M A t Q E s₁ → wpAny M A (t >>= fun r => holding [r] point >>= fun _ => pure r) Q E s₁ :=
    fun ht => wpAny_bind (wpAny_mono ht (fun r s₂ hr => wpAny_bind (wpAny_holding (wpAny_point (wpAny_pure hr)))) fun _ _ x => x)
  have marked (mk : Value) : wpAny M A (callMarked mk f (first ++ a.pos) a.kw) Q E s₁ := by unfold callMarked; exact Calls.wpAny_keep h₁.2
  rcases hk' with rfl | rfl | rfl <;> dsimp only <;> first | exact tail (marked _) | exact tail (wpAny_operating h₁.2)
theorem kk_eval {f : Value} {x : Sem Value} {Q : Args → Shared → Prop} (h : wpAny M A (mergedKeywords f [(none, x)]) (fun d s1 => wpAny M A (keywordsIn f d) (fun kw s2 => Q ⟨[], kw⟩ s2) E s1) E s) : wpAny M A (evalArgs f true [] [(none, x)]) Q E s := by
  unfold evalArgs
  refine wpAny_bind (m := spliced []) (wpAny_pure (wpAny_bind (wpAny_pure ?_)))
  refine wpAny_holding ?_
  refine wpAny_bind (wpAny_mono h (fun d s1 h1 => ?_) fun _ _ z => z)
  refine wpAny_bind (wpAny_pure ?_)
  refine wpAny_bind (wpAny_holding (wpAny_mono h1 (fun kw s2 h2 => wpAny_pure h2) fun _ _ z => z))
theorem kk_merge {f : Value} {x : Sem Value} {Q : Addr → Shared → Prop}
    (h : wpAny M A x (fun m s1 => wpAny M A (mergeMapping s.heap.objs.size m true) (fun _ s2 => Q s.heap.objs.size s2) (fun _ _ => False) s1) E { s with heap := s.heap.push { cls := .type "dict", data := .dict #[] } }) : wpAny M A (mergedKeywords f [(none, x)]) Q E s := by
  unfold mergedKeywords
  refine wpAny_bind (wpAny_alloc ?_)
  refine wpAny_bind (wpAny_holding ?_)
  refine wpAny_bind (wpAny_forIn_list _ (fun rest b s' => (rest = [(none, x)] ∧ b = [] ∧ s' = { s with heap := s.heap.push { cls := .type "dict", data := .dict #[] } }) ∨ (rest = [] ∧ b = [] ∧ Q s.heap.objs.size s')) _ ?_ ?_ _ _ (.inl ⟨rfl, rfl, rfl⟩))
  · rintro y rest b s' (⟨hr, rfl, rfl⟩ | ⟨hr, _⟩)
    · injection hr with h1 h2
      subst h1 h2
      refine wpAny_bind (wpAny_pure ?_)
      refine wpAny_bind (wpAny_mono h (fun m s1 h1 => ?_) fun _ _ z => z)
      refine wpAny_bind (wpAny_onRaise (wpAny_holding (wpAny_tryCatch (wpAny_onRaise (wpAny_mono h1 (fun u s2 h2 => wpAny_pure (.inr ⟨rfl, rfl, h2⟩)) fun _ _ z => z.elim)))))
    · cases hr
  · rintro b s' (⟨hr, _⟩ | ⟨_, rfl, h2⟩)
    · cases hr
    · exact wpAny_pure (wpAny_pure h2)
theorem keywords_of {f : Value} {d : Addr} {ex : List (Str × Value)} {Q : List (Str × Value) → Shared → Prop} (hd : s.heap.DictOf (mixKind prog w) d (inrP ex)) (h : Q ex s) : wpAny (model prog w) A (keywordsIn f d) Q E s := by
  obtain ⟨o, es, ep, ho, hc, hdt, hk, hp, hn⟩ := hd
  unfold keywordsIn
  refine wpAny_bind (wpAny_dictEntries ho hdt ?_)
  refine wpAny_bind ?_
  rw [← Array.forIn_toList]
  refine wpAny_forIn_list _ (fun rest b s' => s' = s ∧ ∃ ex2, b ++ ex2 = ex ∧ Pairs (mixKind prog w) rest (inrP ex2)) _ ?_ ?_ _ _ ⟨rfl, ex, rfl, hp⟩
  · rintro e rest b s' ⟨rfl, ex2, hb, hp2⟩
    cases ex2 with
    | nil => cases hp2
    | cons x r =>
      cases hp2 with
      | cons h1 h2 h3 =>
        obtain ⟨t, ht⟩ := Value.isStrOf_shape (x := x.1) (v := e.key) h1
        rw [ht]
        dsimp only
        refine wpAny_pure ⟨rfl, r, ?_, h3⟩
        rw [h2, ← hb]; simp
  · rintro b s' ⟨rfl, ex2, hb, hp2⟩
    cases ex2 with
    | nil => rw [List.append_nil] at hb; rw [hb]; exact wpAny_pure h
    | cons x r => cases hp2
end
section
variable {g : G} {Z F F' H H' : Hp} {W : WX} {σ : St} {ρ : Env} {st : S} {X : Cx} {e e1 e2 : Expr} {pos p kp : Pos} {pins : List (Addr × Obj)} {s : Shared}
theorem kv_zip_inv : ∀ {ks : List Str} {zs : List V} {vs : List (Key × Value)}, ks.length = zs.length → KV ((ks.map Sum.inr).zip zs : List (Key × V)) vs → ∃ ws, Vals zs ws ∧ vs = inrP (ks.zip ws)
  | [], [], _, _, .nil => ⟨[], .nil, rfl⟩
  | k :: ks, z :: zs, v :: vs, hl, .cons r t => by
    obtain ⟨ws, h1, h2⟩ := kv_zip_inv (ks := ks) (zs := zs) (by simpa using hl) t
    obtain ⟨r1, r2⟩ := r
    refine ⟨v.2 :: ws, .cons r2 h1, ?_⟩
    rw [h2]
    obtain ⟨v1, v2⟩ := v
    dsimp only at r1
    rw [← r1]; rfl
theorem kkRun {x : Str} {i : Nat} {o : Addr} {ks : List Str} {zs : List V} {f : Value} {Q : Args → Shared → Prop} (I : Inv X pins σ H s) (hN : X.N[i]? = some x) (hv : Vis X.env.scope x) (hi : σ[i]? = some (some (.ref o))) (ho : H o = some (.dK ((ks.map Sum.inr).zip zs))) (hl : ks.length = zs.length)
    (hdb : (x == ("__debug__" : Str)) = false) (hcd : (x == ("__classdict__" : Str)) = false)
    (hQ : ∀ s' d ws, H d = none → Inv X pins σ (upd H d (.dK ((ks.map Sum.inr).zip zs))) s' → Vals zs ws → Q ⟨[], ks.zip ws⟩ s') :
    wpAny (model X.prog X.w) X.A (evalArgs f true [] [(none, do let v ← eval (.Name x p) X.env; standAt pos; pure v)]) Q X.xe s := by
  have hf : H s.heap.objs.size = none := I.hok.fresh (Nat.le_refl _)
  have hbig : sysModules < s.heap.objs.size := StX.env0_big I.env0
  have I1 : Inv X pins σ (upd H s.heap.objs.size (.dK [])) { s with heap := s.heap.push { cls := .type "dict", data := .dict #[] }, toks := s.toks } := I.laid (fun b u e => Heap.get?_push_of_some _ e) (Nat.le_refl _) (dk_empty _ hbig)
  refine kk_eval (kk_merge (wpAny_bind ?_))
  have hod : o ≠ s.heap.objs.size := fun e => by rw [e, hf] at ho; cases ho
  refine thn ((pe_var (pos := p) hN hv hdb hcd).run pins _ σ _ (fun v H' => v = .ref o ∧ H' = upd H s.heap.objs.size (.dK [])) I1 ⟨_, hi, rfl, rfl⟩) fun u s2 ⟨v, H2, I2, rv, ev, eH⟩ => ?_
  subst ev
  subst eH
  cases (show u = Value.ref o from rv)
  refine wpAny_bind (wpAny_standAt (wpAny_pure ?_))
  obtain ⟨z1, z2, vs, z3, z4⟩ := I2.hok s.heap.objs.size _ upd_same
  have hv0 : vs = [] := by cases z3; rfl
  subst hv0
  obtain ⟨y1, y2, us, y3, y4⟩ := I2.hok o _ ((upd_ne hod).trans ho)
  obtain ⟨ws, hw, rfl⟩ := kv_zip_inv hl y3
  have hws : ks.length = ws.length := by rw [hl]; exact hw.length
  refine merge_new (Ne.symm hod) y2 z4 y4 (by rw [List.length_map, List.length_zip]; rw [List.length_zip, List.length_map] at y1; omega) fun h' hd' hs' => ?_
  have I3 : Inv X pins σ (upd (upd H s.heap.objs.size (.dK [])) s.heap.objs.size (.dK ((ks.map Sum.inr).zip zs))) { s2 with heap := h', toks := s2.toks } :=
    I2.write (x := s.heap.objs.size) (e := s.heap.objs.size) (by rw [upd_same]; trivial) (.inl rfl) (fun b u hb h => (hs'.2 b hb).trans h) (let ⟨o, _, _, ho, _⟩ := hd'; ⟨o, ho⟩) ⟨y1, z2, _, kv_zip hw, hd'⟩
  rw [upd_upd] at I3
  exact keywords_of hd' (hQ _ _ ws hf I3 hw)
/-- names and values of a dict whose keys are texts -/
def strsK : List Key → Option (List Str)
  | [] => some []
  | .inr k :: ks => (strsK ks).map fun r => k :: r
  | .inl _ :: _ => none
theorem strsK_inv : ∀ {ks : List Key} {ns : List Str}, strsK ks = some ns → ks = ns.map Sum.inr
  | [], _, h => by cases h; rfl
  | .inr k :: ks, ns, h => by
    obtain ⟨r, h1, rfl⟩ := Option.map_eq_some_iff.mp h
    rw [strsK_inv h1]; rfl
  | .inl _ :: _, _, h => by cases h
theorem strsK_of (ns : List Str) : strsK (ns.map Sum.inr) = some ns := by
  induction ns with
  | nil => rfl
  | cons n ns ih => show (strsK (ns.map Sum.inr)).map _ = _; rw [ih]; rfl
def kkO (t : D) (st : S) : Option (List Str × List D) := (dicOf st t).bind fun kvs => (strsK (kvs.map (·.1))).map fun ks => (ks, kvs.map (·.2))
theorem Sim.kk {t : D} {v : V} {q : List Str × List D} (s : Sim g Z st F H) (r : RelD g F t v) (h : kkO t st = some q) : ∃ o zs, v = .ref o ∧ H o = some (.dK ((q.1.map Sum.inr).zip zs)) ∧ q.1.length = zs.length ∧ RelDs g F q.2 zs := by
  obtain ⟨kds, h1, h2⟩ := Option.bind_eq_some_iff.mp h
  obtain ⟨ks, h3, rfl⟩ := Option.map_eq_some_iff.mp h2
  obtain ⟨a, kvs, rfl, h4, h5, h6⟩ := s.dicOf r h1
  have e := strsK_inv h3
  refine ⟨a, kvs.map (·.2), rfl, ?_, ?_, h6⟩
  · have : kvs = (ks.map Sum.inr).zip (kvs.map (·.2)) := by
      rw [← e, ← h5]
      clear h4 h5 h6
      induction kvs with
      | nil => rfl
      | cons k kvs ih => rw [List.map_cons, List.map_cons, List.zip_cons_cons, ← ih]
    rw [← this]; exact h4
  · have := congrArg List.length e
    rw [List.length_map, List.length_map] at this
    have h7 := congrArg List.length h5
    rw [List.length_map, List.length_map] at h7
    rw [List.length_map]
    show ks.length = kvs.length
    omega
variable {k : Nat} {f : Addr} {m : List Str → Fn} {x y : Str}
def makeKK (c : Str) (m : List Str → Fn) (fin : D → M Ex D) (i : Nat) : Env → M Ex D := fun ρ => bindM (var i ρ) fun t => bindM (seeM fun st => kkO t st) fun q => mkM c (m q.1) fin [] q.2
def methKK (c mn : Str) (m : List Str → Fn) (o : Env → M Ex D) (i : Nat) : Env → M Ex D := fun ρ => bindM (o ρ) fun x => bindM (seeM (insOk c mn x)) fun _ => bindM (var i ρ) fun t => bindM (seeM fun st => kkO t st) fun q => m q.1 [x] q.2
theorem fe_makeKK [Kd] {c : Str} {i : Nat} {fin : D → M Ex D} (hf : Fin g fin) (Mk : Mk X.K (g.cl c) f) (C : ∀ ks, Cal g X.prog X.w X.K X.mg X.base k f ks (m ks)) (hM : ∀ ks, MonoF (m ks)) (hr : Room (k + 1) X.A) (tk : Takes X W) (hg : Gl X x) (hm : X.mg x = some (.ref (g.cl c))) (hN : X.N[i]? = some y) (hv : Vis X.env.scope y)
    {p2 : Pos} (hb : backToKw pos (keywordEach [⟨none, .Name y p2, kp⟩] X.env) = [(none, do let v ← eval (.Name y p2) X.env; standAt pos; pure v)] := by rfl) (hdb : (x == ("__debug__" : Str)) = false := by decide) (hdb2 : (y == ("__debug__" : Str)) = false := by decide) (hcd : (y == ("__classdict__" : Str)) = false := by decide) :
    FE g X W (.Call (.Name x p) [] [⟨none, .Name y p2, kp⟩] pos) (makeKK c m fin i) := by
  have hM2 : ∀ ks, MonoF (mkM c (m ks) fin) := fun ks => mono_mkM (c := c) (hM ks) hf.mono
  refine ⟨⟨fun pins s σ H Q I ⟨Z, F, st, ρ, E, N, q⟩ => ?_⟩, fun ρ => mono_bind (mono_var i ρ) fun _ => mono_bind (mono_see _) fun _ => hM2 _ _ _⟩
  refine wpAny_Call_Name_kw (ld_glob I hg hm ?_ hdb)
  obtain ⟨t, ht, q⟩ := varO_inv q
  obtain ⟨v, e', rv⟩ := N.env.2 i t ht
  obtain ⟨kk, hk, q⟩ := q
  obtain ⟨o, zs, rfl, h1, h2, h3⟩ := N.sim.kk rv hk
  rw [hb]
  refine ksd_call (P := fun h => X.K.In h) (by rfl) (PySem.W.keeps_K Mk.kp) (kkRun I hN hv e' h1 h2 hdb2 hcd fun s' d ws hd I2 rz => ⟨I2.kIn, ?_⟩)
  exact run_mk (vs := []) (us := []) Mk (C kk.1) hr tk I2 .nil rz fun y dx n1 n2 n3 => mkGo (hM kk.1) hf ⟨Z, F, st, [], kk.2, N.sim.junk hd, .nil, h3, hM2 kk.1 _ _ _ _ _ _ _ (fun _ _ z => z) (fun _ _ z => N.exc z) q⟩ n1 n2 n3
theorem kwcall_of {M : Model} {A : Around} {E : Value → Shared → Prop} {s : Shared} {env : PySem.Env} {o : Expr} {m : Str} {apos pos : Pos} {kws : List Keyword} {x : Sem Value} {Q : Value → Shared → Prop} (hbase : attributeBase o m env (eval o env) = eval o env)
    (hke : backToKw pos (keywordEach kws env) = [(none, x)])
    (h : wpAny M A (eval o env) (fun ov s₁ => wpAny M A (getAttr ov m true) (fun f s₂ => wpAny M A (callWith pos f [] [] [(none, x)]) Q E s₂) E s₁) E s) :
    wpAny M A (eval (.Call (.Attribute o m apos) [] kws pos) env) Q E s := by
  have hst : backTo pos (starEach [] env) = [] := rfl
  have hform : ∀ n, methodCallForm n [] [(none, x)] = false := fun _ => rfl
  have hpos : methodCallPos false o env apos pos = pure pos := rfl
  have hcal : ∀ ov, calleeOf false o env ov m = (getAttr ov m true >>= fun v => pure (v, [])) := fun _ => rfl
  rw [arm_eval_Call, hbase, hst, hke]
  refine wpAny_bind (wpAny_mono h (fun ov s₁ h₁ => ?_) fun _ _ x => x)
  refine wpAny_bind (wpAny_standAt ?_)
  unfold methodCall
  rw [hform, hpos, hcal]
  refine wpAny_bind (wpAny_holding (wpAny_bind (wpAny_mono h₁ (fun f s₂ h₂ => wpAny_pure ?_) fun _ _ x => x)))
  exact wpAny_bind (wpAny_pure h₂)
theorem fe_methKK [Kd] {c mn : Str} {i : Nat} {o : Expr} {mo : Env → M Ex D} {apos : Pos} (C : ∀ ks, Cal g X.prog X.w X.K X.mg X.base k f ks (m ks)) (hM : ∀ ks, MonoF (m ks)) (hr : Room k X.A) (tk : Takes X W) (hK : X.K = g.K) (hc : Cls g.K (g.cl c)) (hm : L2.BMeth g.K (g.cl c) mn f)
    (ho : FE g X W o mo) (hN : X.N[i]? = some y) (hv : Vis X.env.scope y)
    {p2 : Pos} (hb : backToKw pos (keywordEach [⟨none, .Name y p2, kp⟩] X.env) = [(none, do let v ← eval (.Name y p2) X.env; standAt pos; pure v)] := by rfl) (hdb2 : (y == ("__debug__" : Str)) = false := by decide) (hcd : (y == ("__classdict__" : Str)) = false := by decide)
    (hbase : attributeBase o mn X.env (eval o X.env) = eval o X.env := by rfl) :
    FE g X W (.Call (.Attribute o mn apos) [] [⟨none, .Name y p2, kp⟩] pos) (methKK c mn m mo i) := by
  have mo2 : ∀ (ρ : Env) (x : D), Mono (bindM (var i ρ) fun t => bindM (seeM fun st => kkO t st) fun q => m q.1 [x] q.2) := fun ρ x => mono_bind (mono_var i ρ) fun _ => mono_bind (mono_see _) fun _ => hM _ _ _
  refine ⟨⟨fun pins s σ H Q I ⟨Z, F, st, ρ, E, N, q⟩ => ?_⟩, fun ρ => mono_bind (ho.mono ρ) fun x => mono_bind (mono_see _) fun _ => mo2 ρ x⟩
  rw [← hK] at hc hm
  refine kwcall_of hbase hb (thn (ho.pe.run pins s σ H _ I (tX.go (R1 := RelD g) (P := fun v H1 => ∃ F st x, Now g W Z σ H1 F ρ st E ∧ RelD g F x v ∧ DL.insOk c mn x st = some () ∧ (bindM (var i ρ) fun t => bindM (seeM fun st => kkO t st) fun q => m q.1 [x] q.2) st (Res g (RelD g) Z F Q) (fun x s => E x ρ s)) N (ho.mono ρ) (fun x => mono_bind (mono_see _) fun _ => mo2 ρ x) q fun x v F st H1 e1 N r q => ?_)) fun u s1 ⟨v, H1, I1, rv, F, st, x, N, r, hi, q⟩ => ?_)
  · obtain ⟨_, hi, q⟩ := q
    exact ⟨F, st, x, N, r, hi, q⟩
  · obtain ⟨b, dx, fs, rfl, hbb, hl⟩ := N.sim.insOk r hi
    obtain rfl : u = Value.ref b := rv
    obtain ⟨t, ht2, q⟩ := varO_inv q
    obtain ⟨v, e', rv⟩ := N.env.2 i t ht2
    obtain ⟨kk, hk, q⟩ := q
    obtain ⟨o, zs, rfl, h1, h2, h3⟩ := N.sim.kk rv hk
    refine L2.getbound_ok I1 hbb hc hm hl fun q1 s2 hq1 I2 => ?_
    have hoq : o ≠ q1 := fun e => by rw [e, hq1] at h1; cases h1
    refine ksd_call (first := []) (P := PySem.W.MethP X.K q1 f (.ref b)) (by rfl) (PySem.W.keeps_M hm.fi) (kkRun I2 hN hv e' ((upd_ne hoq).trans h1) h2 hdb2 hcd fun s' d ws hd I3 rz => ?_)
    have hqd : q1 ≠ d := fun e => by rw [← e, upd_same] at hd; cases hd
    have hmet := L2.met_P I3 ((upd_ne hqd).trans upd_same)
    exact ⟨hmet, wpAny_call (PySem.W.method_call hmet.1 (code_cal (us := [.ref b]) (vs := [.ref b]) (C kk.1) hr tk I3 (.cons rfl .nil) rz ⟨Z, F, st, [x], kk.2, (N.sim.junk hq1).junk hd, .one r, h3, hM kk.1 _ _ _ _ _ _ _ (fun _ _ z => z) (fun _ _ z => N.exc z) q⟩))⟩
end
section
variable {ρ : Env} {s : S} {Q : D → S → Prop} {E : Ex → S → Prop} {c mn : Str} {m : List Str → Fn} {fin : D → M Ex D} {i : Nat} {o : Env → M Ex D}
/-- where the names that a dict brings are known -/
def onlyK (ns : List Str) (m : Fn) : List Str → Fn := fun ks => if ks = ns then m else fun _ _ => failM
instance {ns : List Str} {m : Fn} [MF m] {ks : List Str} : MF (onlyK ns m ks) := ⟨fun ds es => by
  unfold onlyK
  split
  · exact MF.mono ds es
  · exact mono_fail⟩
theorem cal_fail [Kd] {g : G} {P : Program} {w : World} {K : PySem.W.Frag} {mg : Str → Option Value} {base : Heap} {k : Nat} {f : Addr} {ks : List Str} : Cal g P w K mg base k f ks (fun _ _ => failM) := by
  intro A outer s H us ws vs zs Q E room env r rz ⟨Z, F, st, ds, es, sim, h1, h2, q⟩
  exact q.elim
theorem cal_only [Kd] {g : G} {P : Program} {w : World} {K : PySem.W.Frag} {mg : Str → Option Value} {base : Heap} {k : Nat} {f : Addr} {ns : List Str} {m : Fn} (C : Cal g P w K mg base k f ns m) (ks : List Str) : Cal g P w K mg base k f ks (onlyK ns m ks) := by
  unfold onlyK
  split
  · rename_i e
    subst e
    exact C
  · exact cal_fail
instance {ps ks : List Str} {m : List D → M Ex D} [MD m] : MF (kdF ps ks m) := ⟨fun ds es => mono_kdF MD.mono ds es⟩
instance [∀ ks, MF (m ks)] [h : MB o] : MB (methKK c mn m o i) := ⟨fun ρ => mono_bind (h.mono ρ) fun x => mono_bind (mono_see _) fun _ => mono_bind (mono_var i ρ) fun _ => mono_bind (mono_see _) fun _ => MF.mono _ _⟩
instance [∀ ks, MF (m ks)] : MB (makeKK c m freeze i) := ⟨fun ρ => mono_bind (mono_var i ρ) fun _ => mono_bind (mono_see _) fun q => (inferInstance : MF (mkM c (m q.1) freeze)).mono _ _⟩
instance [∀ ks, MF (m ks)] : MB (makeKK c m stay i) := ⟨fun ρ => mono_bind (mono_var i ρ) fun _ => mono_bind (mono_see _) fun q => (inferInstance : MF (mkM c (m q.1) stay)).mono _ _⟩
theorem x_makeKK : makeKK c m fin i ρ s Q E = varO ρ[i]? s (fun t s1 => ∃ q, kkO t s1 = some q ∧ mkM c (m q.1) fin [] q.2 s1 Q E) E := rfl
theorem x_methKK : methKK c mn m o i ρ s Q E = o ρ s (fun x s1 => ∃ u, insOk c mn x s1 = some u ∧ varO ρ[i]? s1 (fun t s2 => ∃ q, kkO t s2 = some q ∧ m q.1 [x] q.2 s2 Q E) E) E := rfl
theorem kkO_of {t : D} {ks : List Str} {vs : List D} (h : dicOf s t = some ((ks.map Sum.inr).zip vs)) (hl : ks.length = vs.length) : kkO t s = some (ks, vs) := by
  unfold kkO
  rw [h, Option.bind_some, List.map_fst_zip (by rw [List.length_map]; omega), strsK_of, Option.map_some, List.map_snd_zip (by rw [List.length_map]; omega)]
theorem x_onlyK {ns : List Str} {n : Fn} : onlyK ns n ns = n := if_pos rfl
theorem x_kdF {ps ks : List Str} {n : List D → M Ex D} {ds es : List D} (h1 : ds.length = ps.length) (h2 : es.length = ks.length) (h3 : ks.length ≤ sizeLine) (h4 : ks.Nodup) (h5 : ∀ x ∈ ks, x ∉ ps) : kdF ps ks n ds es s Q E = ∀ a, s.map a = none → n (ds ++ [.ref a]) (s.set a (.dic ((ks.map Sum.inr).zip es))) Q E := by
  unfold kdF
  rw [if_pos ⟨h1, h2, h3, h4, h5⟩]; rfl
end
end DL

namespace DL
def runs_D34 := And.intro @x_makeKK (@x_methKK)
end DL
/-! ### for k in d: a local dict that is not changed within -/
namespace DL
open PySem L2
section
variable {g : G} {Z F F' H H' : Hp} {W : WX} {σ : St} {ρ : Env} {st : S} {X : Cx} {e : Expr} {pos p : Pos} {x : Str}
theorem Sim.lock {pp : Addr} {o : HO} {ob : Ob} (s : Sim g Z st F H) (e : st.map pp = some ob) (nb : ob ≠ .raw) : Sim g (upd Z pp o) (st.del pp) F (upd H pp o) := by
  obtain ⟨f, _⟩ := s.ob pp ob e
  refine ⟨same_at s.same f, fun a u q => ?_, fun a u q => ?_⟩
  · have z : a ≠ pp := by rintro rfl; rw [S.del_same] at q; cases q
    rw [S.del_ne z] at q
    obtain ⟨f1, r1⟩ := s.ob a u q
    refine ⟨f1, r1.move (Same.refl _) (upd_ne z) fun c m => ?_⟩
    rw [S.del_ne (by rintro rfl; rw [e] at m; exact nb (Option.some.inj m))]; exact m
  · by_cases z : a = pp
    · subst z; rw [upd_same] at q; cases q; exact ⟨f, S.del_same, upd_same⟩
    · rw [upd_ne z] at q
      obtain ⟨f1, m, h1⟩ := s.pin a u q
      exact ⟨f1, by rw [S.del_ne z]; exact m, by rw [upd_ne z]; exact h1⟩
theorem Sim.weakZ {pp : Addr} {o : HO} (s : Sim g (upd Z pp o) st F H) (z : Z pp = none) : Sim g Z st F H := ⟨s.same, s.ob, fun a u q => s.pin a u (by rw [upd_ne (by rintro rfl; rw [z] at q; cases q)]; exact q)⟩
def keyT : Key → D
  | .inl i => .int i
  | .inr z => .str z
theorem keyT_rel {k : Key} : RelD g F (keyT k) (kV k) := by
  cases k with
  | inl i => exact relD_int
  | inr z => exact relD_str
theorem keysT_rel : ∀ {kvs : List (Key × V)} {kds : List (Key × D)}, kvs.map (·.1) = kds.map (·.1) → RelDs g F (kds.map fun q => keyT q.1) (kvs.map fun q => kV q.1)
  | [], [], _ => .nil
  | k :: kvs, d :: kds, h => by
    injection h with h1 h2
    rw [List.map_cons, List.map_cons, show k.1 = d.1 from h1]
    exact .cons keyT_rel (keysT_rel h2)
def forKS (i : Nat) (f : D → Env → Option Env) (b : Env → MS) : Env → MS := fun ρ s Q E => ∃ a kvs, ρ[i]? = some (some (.ref a)) ∧ s.map a = some (.dic kvs) ∧ loopS (fun _ => True) f b (kvs.map fun q => keyT q.1) ρ (s.del a) (fun fl s' => s'.map a = none ∧ Q fl (s'.set a (.dic kvs))) E
theorem mono_forKS {i : Nat} {f : D → Env → Option Env} {b : Env → MS} (h : ∀ ρ, Mono (b ρ)) (ρ : Env) : Mono (forKS i f b ρ) := fun s _ _ _ _ hq he ⟨a, kvs, h1, h2, q⟩ => ⟨a, kvs, h1, h2, mono_loopS h _ _ _ _ _ _ _ (fun _ _ z => ⟨z.1, hq _ _ z.2⟩) he q⟩
instance {i : Nat} {f : D → Env → Option Env} {b : Env → MS} [MB b] : MB (forKS i f b) := ⟨mono_forKS MB.mono⟩
theorem fs_forK {tg : Expr} {body : List Stmt} {i : Nat} {f : D → Env → Option Env} {b : Env → MS} (hp : PassesOwn (model X.prog X.w) X.A X.env X.xe) (hc : X.calm = true) (hN : X.N[i]? = some x) (hv : Vis X.env.scope x) (hg : FG g X tg f) (hb : FB g X W body b)
    (hdb : (x == ("__debug__" : Str)) = false := by decide) (hcd : (x == ("__classdict__" : Str)) = false := by decide) (hs : ∀ y, foldedSetIterable (.Name x p) X.env y = pure y := by intro _; rfl) : FS g X W (.For tg (.Name x p) body [] pos) (forKS i f b) := by
  refine ⟨PS.imp (ps_lock (ps_for hp hc (pi_keys (pe_var hN hv hdb hcd)) hg hb.ps hs)) fun D σ H ⟨Z, F, st, ρ, E, N, a, kds, hρ, hm, q⟩ => ?_, mono_forKS hb.mono⟩
  obtain ⟨v, e', rv⟩ := N.env.2 i _ hρ
  unfold RelD at rv
  subst rv
  obtain ⟨nF, kvs, hH, hk, hr⟩ := N.sim.ob a _ hm
  have zf : Z a = none := by
    cases ez : Z a with
    | none => rfl
    | some o => have := (N.sim.pin a o ez).2.1; rw [hm] at this; cases this
  refine ⟨a, .dK kvs, hH, trivial, fun od => ?_⟩
  have sim1 : Sim g (upd Z a (.frz od (.dK kvs))) (st.del a) F (upd H a (.frz od (.dK kvs))) := N.sim.lock hm (by simp)
  have lk1 : Lk g W (upd Z a (.frz od (.dK kvs))) F E := fun x ρ st F' H' u d σ e s => N.lk x ρ st F' H' u d σ e (s.weakZ zf)
  refine ⟨_, e', a, od, rfl, .inl ⟨kvs, upd_same, ?_⟩⟩
  have hlk : kvs.length = kds.length := by have := congrArg List.length hk; simpa using this
  let u : HO := .dK kvs
  let D' : Ends := ⟨fun σ' H' => H' a = some (.frz od u) ∧ D.nx σ' (upd H' a u), fun v H' => H' a = some (.frz od u) ∧ D.rt v (upd H' a u), fun σ' H' => H' a = some (.frz od u) ∧ D.bk σ' (upd H' a u), fun σ' H' => H' a = some (.frz od u) ∧ D.ct σ' (upd H' a u)⟩
  have back : ∀ {F' H' : Hp} {s' : S}, Same F F' → Sim g (upd Z a (.frz od u)) s' F' H' → s'.map a = none → H' a = some (.frz od u) ∧ Sim g Z (s'.set a (.dic kds)) F' (upd H' a u) := fun {F' H' s'} e s hn => by
    obtain ⟨_, _, h⟩ := s.pin a _ upd_same
    refine ⟨h, (s.pinSet (o' := u)).pinPut zf ⟨kvs, upd_same, hk, hr.mono e⟩⟩
  have q1 : loopS (fun _ => True) f b (kds.map fun q => keyT q.1) ρ (st.del a) (ResF g (upd Z a (.frz od u)) F D') (Err E) := by
    refine mono_loopS hb.mono _ _ _ _ _ _ _ (fun fl s' z => ?_) (fun _ _ z => z) q
    obtain ⟨z1, z2⟩ := z
    cases fl with
    | nx ρ' => exact fun σ' F' H' e s env => let ⟨y1, y2⟩ := back e s z1; ⟨y1, z2 σ' F' _ e y2 env⟩
    | rt d => exact fun v F' H' e s r => let ⟨y1, y2⟩ := back e s z1; ⟨y1, z2 v F' _ e y2 r⟩
    | bk ρ' => exact fun σ' F' H' e s env => let ⟨y1, y2⟩ := back e s z1; ⟨y1, z2 σ' F' _ e y2 env⟩
    | ct ρ' => exact fun σ' F' H' e s env => let ⟨y1, y2⟩ := back e s z1; ⟨y1, z2 σ' F' _ e y2 env⟩
  clear q
  have hkeys : RelDs g F (kds.map fun q => keyT q.1) (kvs.map fun q => kV q.1) := keysT_rel hk
  generalize hit : (kds.map fun q => keyT q.1) = items at q1 hkeys
  have hil : items.length = kvs.length := by rw [← hit, List.length_map, hlk]
  refine ⟨fun i m σ H => m = items.length - i ∧ i ≤ items.length ∧ ∃ F3 st3 ρ3, Same F F3 ∧ Now g W (upd Z a (.frz od u)) σ H F3 ρ3 st3 E ∧ loopS (fun _ => True) f b (items.drop i) ρ3 st3 (ResF g (upd Z a (.frz od u)) F3 D') (Err E), ⟨_, rfl, Nat.zero_le _, F, st.del a, ρ, Same.refl _, ⟨sim1, N.env, lk1⟩, q1⟩, ?_⟩
  rintro i m σ1 H1 ⟨rfl, hi1, F3, st3, ρ3, e3, N3, q3⟩
  have ha := (N3.sim.pin a _ upd_same).2.2
  by_cases hlt : i < items.length
  · rw [List.drop_eq_getElem_cons hlt] at q3
    obtain ⟨pp, ρ4, hf, q3⟩ := q3
    refine .inr ⟨⟨ha, by rw [← hil]; exact hlt⟩, fun σ' H' => ∃ F5 st5 ρ5, Same F F5 ∧ Now g W (upd Z a (.frz od u)) σ' H' F5 ρ5 st5 E ∧ loopS (fun _ => True) f b (items.drop (i + 1)) ρ5 st5 (ResF g (upd Z a (.frz od u)) F5 D') (Err E), fun σ' H' h => ⟨items.length - (i + 1), by omega, rfl, hlt, h⟩, fun x H' y => ?_⟩
    obtain ⟨rfl, k, v, hkv, rfl⟩ := y
    have r : RelD g F3 items[i] (kV k) := by
      obtain ⟨d, h4, h5⟩ := hkeys.get' (v := kV k) (i := i) (by rw [List.getElem?_map, hkv]; rfl)
      rw [List.getElem?_eq_getElem hlt] at h4
      rw [Option.some.inj h4]; exact h5.mono e3
    refine ⟨_, F3, st3, items[i], ρ3, ρ4, N3.sim, N3.env, r, hf, fun σ2 env2 => ?_⟩
    refine ⟨_, F3, st3, ρ4, E, ⟨N3.sim, env2, N3.lk⟩, hb.mono ρ4 _ _ _ _ _ (fun fl s k => ?_) (fun _ _ x => x) q3⟩
    cases fl with
    | nx ρ5 => exact fun σ' F' H' e sim env => ⟨F', s, ρ5, e3.trans e, ⟨sim, env, N3.lk.mono e⟩, mono_loopS hb.mono _ _ _ _ _ _ _ (fun _ _ z => z.mono e) (fun _ _ x => x) k⟩
    | ct ρ5 => exact fun σ' F' H' e sim env => ⟨F', s, ρ5, e3.trans e, ⟨sim, env, N3.lk.mono e⟩, mono_loopS hb.mono _ _ _ _ _ _ _ (fun _ _ z => z.mono e) (fun _ _ x => x) k⟩
    | bk ρ5 => exact fun σ' F' H' e sim env => k σ' F' H' e sim env
    | rt d => exact fun v F' H' e sim r => k v F' H' e sim r
  · have ei : i = items.length := by omega
    subst ei
    rw [List.drop_length] at q3
    obtain ⟨pp, q3⟩ := q3
    exact .inl ⟨⟨ha, by rw [← hil]; exact Nat.le_refl _⟩, q3 σ1 F3 H1 (Same.refl _) N3.sim N3.env⟩
end
end DL

/-! ### d.update(e), both dicts -/
namespace DL
open PySem L2
section
variable {g : G} {Z F F' H H' : Hp} {W : WX} {σ : St} {ρ : Env} {st : S} {X : Cx} {e1 e2 : Expr} {pos : Pos}
def putsK (kvs more : List (Key × V)) : List (Key × V) := more.foldl (fun acc kv => putK acc kv.1 kv.2) kvs
theorem KV.puts : ∀ {more : List (Key × V)} {ws : List (Key × Value)} {kvs : List (Key × V)} {vs : List (Key × Value)}, KV more ws → KV kvs vs → KV (putsK kvs more) (merged vs ws)
  | [], _, _, _, .nil, r => r
  | m :: more, w :: ws, kvs, vs, .cons h t, r => by
    obtain ⟨h1, h2⟩ := h
    show KV (putsK (putK kvs m.1 m.2) more) (merged (stored vs w.1 w.2) ws)
    rw [← h1]
    exact KV.puts t (r.put m.1 h2)
theorem putsK_len : ∀ (more kvs : List (Key × V)), (putsK kvs more).length ≤ kvs.length + more.length
  | [], kvs => Nat.le_refl _
  | m :: more, kvs => by
    have h1 := putsK_len more (putK kvs m.1 m.2)
    have h2 := length_putK kvs m.1 m.2
    show (putsK (putK kvs m.1 m.2) more).length ≤ _
    rw [List.length_cons]; omega
theorem mt_update : MtR X "dict.update" (fun x xs H Q => ∃ a o kvs more, x = .ref a ∧ xs = [.ref o] ∧ a ≠ o ∧ H a = some (.dK kvs) ∧ H o = some (.dK more) ∧ kvs.length + more.length ≤ sizeLine ∧ Q .non (upd H a (.dK (putsK kvs more)))) := by
  intro pins s σ H x xs v us Q I rx rs h
  obtain ⟨a, o, kvs, more, rfl, rfl, hne, ha, ho, hz, q⟩ := h
  cases rx
  obtain ⟨u, rfl, rfl⟩ := vals1 rs
  obtain ⟨l1, s1, vs, r1, d1⟩ := I.hok a _ ha
  obtain ⟨l2, s2, ws, r2, d2⟩ := I.hok o _ ho
  have e1 : kvs.length = vs.length := Paired.length r1
  have e2 : more.length = ws.length := Paired.length r2
  refine call_meetsIn PySem.F.slot_dict_update d1.typeIs PySem.F.entry_dict_update (PySem.F.args_dict_update_2 _ _) (meets_dict_update (mixKind X.prog X.w) a o hne s2) ⟨vs, ws, d1, d2, by omega, fun h' hd' ho' hs' => ?_⟩
  have new : ObjOk X.prog X.w (upd H a (.dK (putsK kvs more))) h' a (.dK (putsK kvs more)) := ⟨Nat.le_trans (putsK_len more kvs) hz, s1, _, KV.puts r2 r1, hd'⟩
  have I2 := I.write (x := a) (e := a) (o := .dK (putsK kvs more)) (h' := h') (t' := s.toks) (by rw [ha]; trivial) (.inl rfl) (fun b u hb h => (hs'.2 b hb).trans h) (let ⟨o, _, _, ho, _⟩ := hd'; ⟨o, ho⟩) new
  exact ⟨.non, _, I2, rfl, q⟩
def putsKD (kvs more : List (Key × D)) : List (Key × D) := more.foldl (fun acc kv => putKD acc kv.1 kv.2) kvs
theorem putsKD_rel : ∀ {mds : List (Key × D)} {mvs : List (Key × V)} {kds : List (Key × D)} {kvs : List (Key × V)}, mvs.map (·.1) = mds.map (·.1) → RelDs g F (mds.map (·.2)) (mvs.map (·.2)) → kvs.map (·.1) = kds.map (·.1) → RelDs g F (kds.map (·.2)) (kvs.map (·.2)) →
    (putsK kvs mvs).map (·.1) = (putsKD kds mds).map (·.1) ∧ RelDs g F ((putsKD kds mds).map (·.2)) ((putsK kvs mvs).map (·.2))
  | [], [], _, _, _, _, h, r => ⟨h, r⟩
  | [], _ :: _, _, _, h, _, _, _ => by cases h
  | _ :: _, [], _, _, h, _, _, _ => by cases h
  | m :: mds, v :: mvs, kds, kvs, h1, r1, h, r => by
    injection h1 with h2 h3
    obtain ⟨w, ws, e, q1, q2⟩ := r1.cons_inv
    cases e
    obtain ⟨p1, p2⟩ := putKD_rel (k := m.1) q1 h r
    show (putsK (putK kvs v.1 v.2) mvs).map (·.1) = (putsKD (putKD kds m.1 m.2) mds).map (·.1) ∧ _
    rw [show v.1 = m.1 from h2]
    refine (putsKD_rel h3 q2 p1 p2).imp (fun z => z) fun z => ?_
    show RelDs g F ((putsKD (putKD kds m.1 m.2) mds).map (·.2)) ((putsK (putK kvs v.1 v.2) mvs).map (·.2))
    rw [show v.1 = m.1 from h2]
    exact z
/-- x is a place with a dict -/
def isDicP (x : D) (st : S) : Option Unit := match x with
  | .ref a => (obK (st.map a)).map fun _ => ()
  | _ => none
def updF (x y : D) : M Ex D := fun s Q _ => ∃ a kvs more, x = .ref a ∧ s.map a = some (.dic kvs) ∧ dicOf s y = some more ∧ y ≠ .ref a ∧ kvs.length + more.length ≤ sizeLine ∧ Q .non (s.set a (.dic (putsKD kvs more)))
theorem mono_updF {x y : D} : Mono (updF x y) := fun _ _ _ _ _ hq _ ⟨a, kvs, more, h1, h2, h3, h4, h5, h⟩ => ⟨a, kvs, more, h1, h2, h3, h4, h5, hq _ _ h⟩
def updM (o v : Env → M Ex D) : Env → M Ex D := fun ρ => bindM (o ρ) fun x => bindM (seeM (isDicP x)) fun _ => bindM (v ρ) fun y => updF x y
theorem mono_updM {o v : Env → M Ex D} (ho : ∀ ρ, Mono (o ρ)) (hv : ∀ ρ, Mono (v ρ)) (ρ : Env) : Mono (updM o v ρ) := mono_bind (ho ρ) fun _ => mono_bind (mono_see _) fun _ => mono_bind (hv ρ) fun _ => mono_updF
instance {o v : Env → M Ex D} [MB o] [MB v] : MB (updM o v) := ⟨mono_updM MB.mono MB.mono⟩
theorem isDicP_inv {x : D} {v : V} (sim : Sim g Z st F H) (r : RelD g F x v) (h : isDicP x st = some ()) : ∃ a kvs, v = .ref a ∧ H a = some (.dK kvs) := by
  cases x with
  | ref a =>
    obtain ⟨xs, h1, _⟩ := Option.map_eq_some_iff.mp h
    obtain ⟨a', kvs, e, h2, _⟩ := sim.dicOf r (show DL.dicOf st (.ref a) = some xs from h1)
    exact ⟨a', kvs, e, h2⟩
  | _ => cases h
theorem fe_update {apos : Pos} {o v : Env → M Ex D} (ho : FE g X W e1 o) (hv : FE g X W e2 v)
    (hbase : attributeBase e1 "update" X.env (eval e1 X.env) = eval e1 X.env := by rfl)
    (hfew : ((backTo pos (starEach [e2] X.env)).all (fun x => !x.1) && (backToKw pos (keywordEach [] X.env)).all (fun x => x.1.isSome)
      && decide ([e2].length + ([] : List Keyword).length + (if ([] : List Keyword).isEmpty then 0 else 1) < 30)) = true := by rfl)
    (hline : (apos.endLine == pos.line) = true := by rfl) (hs : starEach [e2] X.env = (false, eval e2 X.env) :: starEach [] X.env := by rfl) (hplain : (backTo pos (starEach [] X.env)).any (·.1) = false := by rfl) :
    FE g X W (.Call (.Attribute e1 "update" apos) [e2] [] pos) (updM o v) := by
  refine ⟨PE.imp (pe_bm PySem.F.plainAttrs_dict PySem.F.slot_dict_update PySem.F.type_dict_update mt_update ho.pe (pa_cons hv.pe pa_nil hs) hbase hfew hline hs hplain) fun σ H Q ⟨Z, F, st, ρ, E, N, q⟩ => ?_, mono_updM ho.mono hv.mono⟩
  have mk : ∀ x, Mono (bindM (v ρ) fun y => updF x y) := fun x => mono_bind (hv.mono ρ) fun _ => mono_updF
  refine tX.go (R1 := RelD g) N (ho.mono ρ) (fun x => mono_bind (mono_see _) fun _ => mk x) q fun dx x F st H1 e1 N rx q => ?_
  obtain ⟨_, hi, q⟩ := q
  obtain ⟨a, kvs0, rfl, ha⟩ := isDicP_inv N.sim rx hi
  refine ⟨.inr (.inr (.inl ⟨rfl, .inl ⟨kvs0, ha⟩⟩)), tX.go (R1 := RelD g) N (hv.mono ρ) (fun _ => mono_updF) q fun dy y F st H2 e2 N ry q => ?_⟩
  obtain ⟨a', kds, mds, rfl, hm, hd, hne, hz, q⟩ := q
  unfold RelD at rx
  cases rx
  obtain ⟨nF, kvs, hH, hk, hr⟩ := N.sim.ob a _ hm
  obtain ⟨b, mvs, rfl, hb, hk2, hr2⟩ := N.sim.dicOf ry hd
  have hab : a ≠ b := by
    rintro rfl
    cases dy with
    | ref b' => unfold RelD at ry; cases ry; exact hne rfl
    | dic ks ds =>
      unfold RelD at ry
      obtain ⟨a2, kvs2, e, h3, _⟩ := ry
      cases e
      rw [nF] at h3; cases h3
    | _ => cases hd
  have l1 : kvs.length = kds.length := by have := congrArg List.length hk; simpa using this
  have l2 : mvs.length = mds.length := by have := congrArg List.length hk2; simpa using this
  obtain ⟨p1, p2⟩ := putsKD_rel hk2 hr2 hk hr
  exact ⟨a, b, kvs, mvs, rfl, rfl, hab, hH, hb, by omega, q .non F _ (Same.refl _) (N.sim.put nF (.inr ⟨_, hm, by intro z; cases z⟩) ⟨_, upd_same, p1, p2⟩) relD_non⟩
end
section
variable {ρ : Env} {s : S} {Q : D → S → Prop} {E : Ex → S → Prop} {QF : Fl → S → Prop} {EE : Ex × Env → S → Prop} {o v : Env → M Ex D} {a : Addr} {kvs more : List (Key × D)} {y : D}
theorem x_updM : updM o v ρ s Q E = o ρ s (fun x s1 => ∃ u, isDicP x s1 = some u ∧ v ρ s1 (fun y s2 => updF x y s2 Q E) E) E := rfl
theorem isDicP_at (h : s.map a = some (.dic kvs)) : isDicP (.ref a) s = some () := by
  show (obK (s.map a)).map _ = _
  rw [h]; rfl
theorem isDicP_set : isDicP (.ref a) (s.set a (.dic kvs)) = some () := isDicP_at S.set_same
theorem x_updF (h : s.map a = some (.dic kvs)) (hd : dicOf s y = some more) (hne : y ≠ .ref a) (hz : kvs.length + more.length ≤ sizeLine) : updF (.ref a) y s Q E = Q .non (s.set a (.dic (putsKD kvs more))) := by
  refine propext ⟨fun ⟨a', k', m', e, h1, h2, h3, h4, h5⟩ => ?_, fun q => ⟨a, kvs, more, rfl, h, hd, hne, hz, q⟩⟩
  cases e
  rw [h] at h1
  cases h1
  rw [hd] at h2
  cases h2
  exact h5
theorem x_forKS {i : Nat} {f : D → Env → Option Env} {b : Env → MS} (hi : ρ[i]? = some (some (.ref a))) (h : s.map a = some (.dic kvs)) : forKS i f b ρ s QF EE = loopS (fun _ => True) f b (kvs.map fun q => keyT q.1) ρ (s.del a) (fun fl s' => s'.map a = none ∧ QF fl (s'.set a (.dic kvs))) EE := by
  refine propext ⟨fun ⟨a', k', h1, h2, h3⟩ => ?_, fun q => ⟨a, kvs, hi, h, q⟩⟩
  rw [hi] at h1
  cases h1
  rw [h] at h2
  cases h2
  exact h3
end
end DL

namespace DL
def runs_D36 := And.intro @x_updM (@isDicP_set)
end DL
/-! ### a suite that is never come to -/
namespace DL
open PySem L2
section
variable {g : G} {X : Cx} {i : Option Nat} {a : Addr} {cls : Value} {d : Option Addr}
def hnever : Ex → Env → MS := fun _ _ => failM
instance : MHf hnever := ⟨fun _ _ => mono_fail⟩
theorem su_never {s : Stmt} : PSs X [s] (tSu g i a cls d hnever) :=
  pss_one ⟨fun _ _ _ _ _ _ ⟨_, _, _, _, _, _, _, _, _, q⟩ => q.elim⟩
end
end DL

/-! ### xs[::-1]; [a, b] == [c, d] where dicts stand in the lists -/
namespace DL
open PySem L2
section
variable {g : G} {Z F F' H H' : Hp} {W : WX} {σ : St} {ρ : Env} {st : S} {X : Cx} {e e1 e2 : Expr} {pos : Pos}
def revL (a : Env → M Ex D) : Env → M Ex D := fun ρ => bindM (a ρ) fun x => seeM fun st => (lstOf st x).map fun xs => .lst xs.reverse
instance {a : Env → M Ex D} [MB a] : MB (revL a) := ⟨fun ρ => mono_bind (MB.mono ρ) fun _ => mono_see _⟩
theorem fe_revL {a : Env → M Ex D} {k : Nat} {p1 p2 p3 : Pos} (hK : X.K = g.K) (ha : FE g X W e a) : FE g X W (.Subscript e (.Slice none none (some (.UnaryOp .USub (.Constant (.int 1) k p1) p2)) p3) pos) (revL a) :=
  ⟨PE.imp (L2.pe_revL ha.pe) fun σ H Q ⟨Z, F, st, ρ, E, N, q⟩ => tX.go N (ha.mono ρ) (fun _ => mono_see _) q fun dx x F st H1 e N rx q => by
      obtain ⟨d, ed, q⟩ := q
      obtain ⟨xs, h1, rfl⟩ := Option.map_eq_some_iff.mp ed
      obtain ⟨b, vs, rfl, h2, r1⟩ := lst_of N.sim rx h1
      refine ⟨b, vs, rfl, SqL.of h2, fun p np => ?_⟩
      have s := same_upd (o := .lst vs.reverse) (N.sim.free np).1
      exact q _ _ _ s (N.sim.new np) (by unfold RelD; exact ⟨p, _, rfl, upd_same, r1.rev.mono s⟩),
   fun ρ => mono_bind (ha.mono ρ) fun _ => mono_see _⟩
/-- == of two things that stand in lists: dicts of flat values, or data -/
inductive ElV (K : PySem.W.Frag) (H : Hp) : V → V → Bool → Prop
  | dic {a b : Addr} {ks ls : List (Key × V)} : H a = some (.dK ks) → H b = some (.dK ls) → (∀ p ∈ ks, flatV p.2 = true) → (∀ p ∈ ls, flatV p.2 = true) → hitsV ks ks = true → ElV K H (.ref a) (.ref b) (ks.length == ls.length && hitsV ls ks)
  | dat {x y : V} {d e : PyData} : Dp K H x d → Dp K H y e → SeqAt.shaped d = true → SeqAt.shaped e = true → ElV K H x y (PyData.eqv d e)
theorem ElV.eqIn {pins : List (Addr × Obj)} {s : Shared} {x y : V} {v u : Value} {b : Bool} (I : Inv X pins σ H s) (h : ElV X.K H x y b) (rx : RelV x v) (ry : RelV y u) {A : Around} (hu : A.units + 65 < cLine) : SeqAt.EqIn X.prog X.w A s v u b := by
  cases h with
  | @dic a b ks ls ea eb f1 f2 hh =>
    obtain rfl : v = Value.ref a := rx
    obtain rfl : u = Value.ref b := ry
    by_cases hne : a = b
    · subst hne
      rw [ea] at eb
      obtain rfl : ks = ls := by cases eb; rfl
      rw [hh, beq_self_eq_true]
      exact (SeqAt.EqAt.same _).inModel _ _
    · obtain ⟨_, ya, va, ra, da⟩ := (show ObjOk X.prog X.w H s.heap a (.dK ks) from I.hok a _ ea)
      obtain ⟨_, yb, vb, rb, db⟩ := (show ObjOk X.prog X.w H s.heap b (.dK ls) from I.hok b _ eb)
      refine SeqAt.EqIn.of_refs hne fun E Q hq => ?_
      exact PySem.W.keq_eq (knd := mixKind X.prog X.w) (r := hitsV ls ks) ya yb da db (by omega) (fun _ => hits_any rb f2 ra f1) (by rw [← ra.length, ← rb.length]; exact hq)
  | @dat x y d e hd he sd se =>
    obtain ⟨as, r1⟩ := Dp.reads I d x v hd rx
    obtain ⟨bs, r2⟩ := Dp.reads I e y u he ry
    exact (SeqAt.EqAt.of_in1 (PySem.W.keq_at r1 r2 sd se (by show A.units + 1 + 64 < cLine; omega))).inModel _ _
inductive ElsV (K : PySem.W.Frag) (H : Hp) : List V → List V → List Bool → Prop
  | nil : ElsV K H [] [] []
  | cons {x y : V} {b : Bool} {xs ys : List V} {bs : List Bool} : ElV K H x y b → ElsV K H xs ys bs → ElsV K H (x :: xs) (y :: ys) (b :: bs)
theorem ElsV.eqIn {pins : List (Addr × Obj)} {s : Shared} (I : Inv X pins σ H s) {A : Around} (hu : A.units + 65 < cLine) : ∀ {xs ys : List V} {bs : List Bool} {vs us : List Value}, ElsV X.K H xs ys bs → Vals xs vs → Vals ys us → vs.length = us.length ∧ vs.length = bs.length ∧ ∀ j (h1 : j < vs.length) (h2 : j < us.length), SeqAt.EqIn X.prog X.w A s vs[j] us[j] (bs.getD j true)
  | _, _, _, _, _, .nil, .nil, .nil => ⟨rfl, rfl, fun j h => by cases h⟩
  | _, _, _, _, _, .cons h t, .cons r1 r2, .cons q1 q2 => by
    obtain ⟨i1, i2, i3⟩ := ElsV.eqIn I hu t r2 q2
    refine ⟨by simp [i1], by simp [i2], fun j h1 h2 => ?_⟩
    cases j with
    | zero => exact h.eqIn I r1 q1 hu
    | succ j => exact i3 j (by simpa using h1) (by simpa using h2)
theorem range_all (bs : List Bool) : (List.range bs.length).all (fun j => bs.getD j true) = bs.all id := by
  rw [Bool.eq_iff_iff]
  simp only [List.all_eq_true, List.mem_range, id]
  constructor
  · intro h b hb
    obtain ⟨i, hi, rfl⟩ := List.getElem_of_mem hb
    have := h i hi
    rw [List.getD_eq_getElem?_getD, List.getElem?_eq_getElem hi] at this
    exact this
  · intro h i hi
    rw [List.getD_eq_getElem?_getD, List.getElem?_eq_getElem hi]
    exact h _ (List.getElem_mem hi)
def rEqR (K : PySem.W.Frag) : R2 := fun x y H Q => ∃ a b xs ys bs, x = .ref a ∧ y = .ref b ∧ SqL K H a xs ∧ SqL K H b ys ∧ ElsV K H xs ys bs ∧ Q (.bl (bs.all id)) H
theorem op_eqR (hu : X.A.units + 66 < cLine) : OpR X (compareOp .Eq) (rEqR X.K) := by
  intro pins s σ H x y v u Q I rx ry h
  obtain ⟨a, b, xs, ys, bs, rfl, rfl, ha, hb, hE, q⟩ := h
  obtain rfl : v = Value.ref a := rx
  obtain rfl : u = Value.ref b := ry
  obtain ⟨vs, r1, p1, _⟩ := I.list ha
  obtain ⟨us, r2, p2, _⟩ := I.list hb
  obtain ⟨n1, n2, n3⟩ := ElsV.eqIn I (A := X.A.in1) (by show X.A.units + 1 + 65 < cLine; omega) hE r1 r2
  refine SeqAt.rcIn_lists (e := fun j => bs.getD j true) p1.isList p2.isList (by simpa using n1) (by omega) (fun j h1 h2 => ?_) ?_
  · have := n3 j (by simpa using h1) (by simpa using h2)
    simpa using this
  · refine fin_bl I q ?_
    show bs.all id = ((List.range vs.toArray.size).all fun j => bs.getD j true)
    rw [List.size_toArray, n2, range_all]
def eqEl (st : S) (x y : D) : Option Bool := match dicOf st x with
  | some ks => (dicOf st y).bind fun ls => (kvV ks).bind fun us => (kvV ls).bind fun vs => if hitsV us us = true then some (us.length == vs.length && hitsV vs us) else none
  | none => eqP st x y
def eqEls (st : S) : List D → List D → Option (List Bool)
  | [], [] => some []
  | x :: xs, y :: ys => (eqEl st x y).bind fun b => (eqEls st xs ys).map fun bs => b :: bs
  | _, _ => none
def eqRD : P2 := fun x y st => (lstOf st x).bind fun xs => (lstOf st y).bind fun ys => (eqEls st xs ys).map fun bs => .bl (bs.all id)
theorem eqEl_rel {x y : D} {b : Bool} (h : eqEl st x y = some b) {v u : V} (sim : Sim g Z st F H) (hx : RelD g F x v) (hy : RelD g F y u) : ElV g.K H v u b := by
  unfold eqEl at h
  split at h
  · rename_i ks h1
    obtain ⟨ls, h2, h⟩ := Option.bind_eq_some_iff.mp h
    obtain ⟨us, h3, h⟩ := Option.bind_eq_some_iff.mp h
    obtain ⟨vs, h4, h⟩ := Option.bind_eq_some_iff.mp h
    split at h
    · rename_i hh
      cases h
      obtain ⟨a, kv1, rfl, a1, a2, a3⟩ := sim.dicOf hx h1
      obtain ⟨c, kv2, rfl, b1, b2, b3⟩ := sim.dicOf hy h2
      obtain ⟨rfl, f1⟩ := kvV_rel h3 a2 a3
      obtain ⟨rfl, f2⟩ := kvV_rel h4 b2 b3
      exact .dic a1 b1 f1 f2 hh
    · cases h
  · obtain ⟨p, q', h1, h2, h3, h4, rfl⟩ := eqP_inv h
    exact .dat (sim.view_dp hx h1) (sim.view_dp hy h2) h3 h4
theorem eqEls_rel : ∀ {xs ys : List D} {bs : List Bool} (_ : eqEls st xs ys = some bs) {vs us : List V} (_ : Sim g Z st F H) (_ : RelDs g F xs vs) (_ : RelDs g F ys us), ElsV g.K H vs us bs
  | [], [], bs, h, vs, us, _, r1, r2 => by
    cases h
    rw [r1.nil_inv, r2.nil_inv]; exact .nil
  | x :: xs, y :: ys, bs, h, vs, us, sim, r1, r2 => by
    obtain ⟨b, h1, h⟩ := Option.bind_eq_some_iff.mp (show ((eqEl st x y).bind fun b => (eqEls st xs ys).map fun bs => b :: bs) = some bs from h)
    obtain ⟨bs', h2, rfl⟩ := Option.map_eq_some_iff.mp h
    obtain ⟨v, vs, rfl, q1, q2⟩ := r1.cons_inv
    obtain ⟨u, us, rfl, p1, p2⟩ := r2.cons_inv
    exact .cons (eqEl_rel h1 sim q1 p1) (eqEls_rel h2 sim q2 p2)
  | [], _ :: _, _, h, _, _, _, _, _ => by cases h
  | _ :: _, [], _, h, _, _, _, _, _ => by cases h
theorem od_eqR {k : Nat} {A : Around} (hA : X.A = A) (hK : X.K = g.K) (hr : Room k A) : OpD g X (compareOp .Eq) eqRD := OpD.of fun dx dy Z F st d e => by
  obtain ⟨xs, h1, e⟩ := Option.bind_eq_some_iff.mp e
  obtain ⟨ys, h2, e⟩ := Option.bind_eq_some_iff.mp e
  obtain ⟨bs, h3, rfl⟩ := Option.map_eq_some_iff.mp e
  exact ⟨_, op_eqR (by rw [hA]; have := hr.un; omega), fun x y H Q sim hx hy q => by
    obtain ⟨a, vs, rfl, ha, r1⟩ := lst_of sim hx h1
    obtain ⟨b, us, rfl, hb, r2⟩ := lst_of sim hy h2
    rw [hK]
    exact ⟨a, b, vs, us, bs, rfl, rfl, SqL.of ha, SqL.of hb, eqEls_rel h3 sim r1 r2, q _ F H (Same.refl _) sim relD_bl⟩⟩
end
section
variable {ρ : Env} {s : S} {Q : D → S → Prop} {E : Ex → S → Prop}
theorem x_revL {a : Env → M Ex D} : revL a ρ s Q E = a ρ s (fun x s1 => ∃ v, ((lstOf s1 x).map fun xs => D.lst xs.reverse) = some v ∧ Q v s1) E := rfl
end
end DL

namespace DL
def runs_D38 := @x_revL
end DL
/-! ### x in a list, data that stand in one another -/
namespace DL
open PySem L2
section
variable {g : G} {Z F F' H H' : Hp} {W : WX} {σ : St} {ρ : Env} {st : S} {X : Cx}
def inPB (st : S) (x y : D) : Option Bool := match toPy (viewD st x), toPy (viewD st y) with
  | some d, some (.list ds) => if SeqAt.shaped d = true ∧ SeqAt.shaped (.list ds) = true then some (ds.any fun z => PyData.eqv z d) else none
  | _, _ => none
def inPD : P2 := fun x y st => (inPB st x y).map .bl
def notInPD : P2 := fun x y st => (inPB st x y).map fun b => .bl (!b)
theorem inPB_inv {x y : D} {b : Bool} (h : inPB st x y = some b) : ∃ d ds, toPy (viewD st x) = some d ∧ toPy (viewD st y) = some (.list ds) ∧ SeqAt.shaped d = true ∧ SeqAt.shaped (.list ds) = true ∧ b = ds.any fun z => PyData.eqv z d := by
  unfold inPB at h
  split at h
  · rename_i d ds h1 h2
    split at h
    · rename_i hh
      cases h
      exact ⟨d, ds, h1, h2, hh.1, hh.2, rfl⟩
    · cases h
  · cases h
theorem od_inP {k : Nat} {A : Around} (hA : X.A = A) (hK : X.K = g.K) (hr : Room k A) : OpD g X (compareOp .In) inPD := OpD.of fun dx dy Z F st d e => by
  obtain ⟨b, hb, rfl⟩ := Option.map_eq_some_iff.mp e
  obtain ⟨p, ds, h1, h2, h3, h4, rfl⟩ := inPB_inv hb
  exact ⟨_, L2.op_inD (by rw [hA]; have := hr.un; omega), fun x y H Q sim hx hy q => by
    rw [hK]
    exact ⟨p, ds, sim.view_dp hx h1, sim.view_dp hy h2, h3, h4, q _ F H (Same.refl _) sim relD_bl⟩⟩
theorem od_notInP {k : Nat} {A : Around} (hA : X.A = A) (hK : X.K = g.K) (hr : Room k A) : OpD g X (compareOp .NotIn) notInPD := OpD.of fun dx dy Z F st d e => by
  obtain ⟨b, hb, rfl⟩ := Option.map_eq_some_iff.mp e
  obtain ⟨p, ds, h1, h2, h3, h4, rfl⟩ := inPB_inv hb
  exact ⟨_, L2.op_notInD (by rw [hA]; have := hr.un; omega), fun x y H Q sim hx hy q => by
    rw [hK]
    exact ⟨p, ds, sim.view_dp hx h1, sim.view_dp hy h2, h3, h4, q _ F H (Same.refl _) sim relD_bl⟩⟩
end
end DL

/-! ### exceptions: suites that raise, and that let the exception go on -/
namespace DL
open PySem PySem.Spec PyProof.Rows L2
theorem zB_up : ∀ {b : Bool} {cls : Value} {d : Option Addr} {o : Obj}, L2N.Zn cls d o → zB b cls d o
  | true, _, _, _, h => h
  | false, _, _, _, h => h.zc
/-- what is known of an exception at a and its traceback at T; v: who holds it -/
structure Fly (Z : Obj → Prop) (v : Value) (X : Cx) (a T : Addr) (oe oT : Obj) (pins : List (Addr × Obj)) : Prop where
  z : Z oe
  f : ∃ vs ts, oe.data = .fields vs ∧ vs[1]? = some (.ref T) ∧ oT.data = .fields ts ∧ ts[3]? = some v
  ne : T ≠ a
  far0 : ∀ c o, X.s_0.heap.get? c = some o → c ≠ a ∧ c ≠ T
  farP : ∀ p ∈ X.pn ++ pins, p.1 ≠ a ∧ p.1 ≠ T
  ok : X.Ok
section
variable {X : Cx} {pins : List (Addr × Obj)} {σ : L2.St} {H : Hp} {s sI : Shared} {B : Heap} {a T : Addr} {oe oT : Obj} {Z : Obj → Prop} {v : Value}
theorem fly_in {h3 : Heap} (hs : X.stack = X.env :: X.outer) (hf : X.env.frame = some X.env.locals) (hex : X.ex = []) (ok : X.Ok) (J : Inv X pins σ H sI) (nb : ∀ b o, sI.heap.get? b = some o → b ∉ frs X.stack → B.get? b = some o) (up : sI.heap.UpToSlots h3)
    (k1 : B.StaysIn h3) (k2 : B.get? a = none) (k3 : h3.FunFrames B (X.env :: X.outer)) (tr : HandSPX.TracedZ h3 B a Z v) (na : H a = none) (os : s.os = sI.os) (ag : AllBare s.gens) :
    ∃ T oe oT, Fly Z v X a T oe oT pins ∧ ∀ (A : Around) (xe : Value → Shared → Prop), Inv { X.suite a ((a, oe) :: (T, oT) :: (X.pn ++ pins)) with xe := xe } [] σ H { s with heap := h3 } := by
  have J3 : Inv X pins σ H { s with heap := h3 } := J.landed nb k1 up os ag
  obtain ⟨oe, vs, T, oT, ts, he3, hz, hd, hv1, hnT, hTe, hT, hdT, ht3⟩ := tr
  have nT : H T = none := (J.inGround nb).gone hnT
  have notFr : ∀ (b : Addr) (o : Obj) (fv : Array Value), h3.get? b = some o → o.data = .fields fv → b ∉ frs (X.env :: X.outer) := fun b o fv e dd hm => by
    obtain ⟨_, o', e', hnf⟩ := k3.mem hm
    cases Option.some.inj (e.symm.trans e')
    exact hnf _ dd
  have locF : X.env.locals ∈ frs (X.env :: X.outer) := List.mem_filterMap.mpr ⟨X.env, List.mem_cons_self, hf⟩
  have fsF : ∀ b, b ∈ X.fs → b ∈ frs (X.env :: X.outer) := fun b hm => let ⟨e, he, q⟩ := List.mem_filterMap.mp hm; List.mem_filterMap.mpr ⟨e, List.mem_cons_of_mem _ he, q⟩
  have fa := notFr a oe vs he3 hd
  have fT := notFr T oT ts hT hdT
  have far : ∀ b o, sI.heap.get? b = some o → b ≠ a ∧ b ≠ T := fun b o e => by
    by_cases hb : b ∈ frs X.stack
    · rw [hs] at hb
      exact ⟨fun z => fa (z ▸ hb), fun z => fT (z ▸ hb)⟩
    · have q := nb b o e hb
      refine ⟨fun z => ?_, fun z => ?_⟩
      · rw [z, k2] at q; cases q
      · rw [z, hnT] at q; cases q
  refine ⟨T, oe, oT, ⟨hz, ⟨vs, ts, hd, hv1, hdT, ht3⟩, hTe, fun b o e => ?_, fun p hp => far p.1 p.2 (J.pin p hp).1, ok⟩, fun A xe => ⟨?_, J3.os, J3.bare, J3.base, J3.loc, J3.cell, J3.free, J3.freeC, fun p hp => ?_, J3.hok, J3.len⟩⟩
  · obtain ⟨o', q⟩ := J.base.there b o e (by rw [hex]; simp)
    exact far b o' q
  · have z := J3.ok.suite a ((a, oe) :: (T, oT) :: (X.pn ++ pins))
    exact z.wish xe
  · rw [List.append_nil] at hp
    rcases List.mem_cons.mp hp with rfl | hp
    · exact ⟨he3, na, fun z2 => fa ((show a = X.env.locals from z2) ▸ locF), fun z2 => fa (fsF _ z2), fun v z2 => by rw [show oe.data = .cell v from z2] at hd; cases hd⟩
    · rcases List.mem_cons.mp hp with rfl | hp
      · exact ⟨hT, nT, fun z2 => fT ((show T = X.env.locals from z2) ▸ locF), fun z2 => fT (fsF _ z2), fun v z2 => by rw [show oT.data = .cell v from z2] at hdT; cases hdT⟩
      · exact J3.pin p hp
/-- the state behind a suite: the exception apart -/
theorem fly_out {Y : Cx} {pn' : List (Addr × Obj)} (hs : X.stack = X.env :: X.outer) (fl : Fly Z v X a T oe oT pins) (I : Inv Y pn' σ H s) (hY : ∃ xe, Y = { X.suite a ((a, oe) :: (T, oT) :: (X.pn ++ pins)) with xe := xe }) :
    ∃ G B, Inv X pins σ H { s with heap := G } ∧ (∀ b o, G.get? b = some o → b ∉ frs X.stack → B.get? b = some o) ∧ G.UpToSlots s.heap ∧ B.StaysIn s.heap ∧ B.get? a = none ∧ s.heap.FunFrames B (X.env :: X.outer) ∧ HandSPX.TracedZ s.heap B a Z v ∧ H a = none ∧ AllBare s.gens := by
  obtain ⟨xe, rfl⟩ := hY
  obtain ⟨hz, ⟨vs, ts, hd, hv1, hdT, ht3⟩, hTe, far0, farP, ok⟩ := fl
  have J6 : Inv X pins σ H s := ⟨ok, I.os, I.bare, I.base, I.loc, I.cell, I.free, I.freeC, fun p hp => I.pin p (List.mem_append_left _ (List.mem_cons_of_mem _ (List.mem_cons_of_mem _ hp))), I.hok, I.len⟩
  have pa := I.pin (a, oe) (List.mem_append_left _ List.mem_cons_self)
  have pT := I.pin (T, oT) (List.mem_append_left _ (List.mem_cons_of_mem _ List.mem_cons_self))
  have ga : s.heap.get? a = some oe := pa.1
  have gT : s.heap.get? T = some oT := pT.1
  have na : H a = none := pa.2.1
  have nT : H T = none := pT.2.1
  obtain ⟨G, g1, g2⟩ := restrict s.heap fun b => !(decide (b = a) || decide (b = T))
  have gIn : ∀ b o, G.get? b = some o → s.heap.get? b = some o ∧ b ≠ a ∧ b ≠ T := fun b o e => by
    cases q : (!(decide (b = a) || decide (b = T))) with
    | false => rw [g2 b q] at e; cases e
    | true =>
      rw [g1 b q] at e
      simp only [Bool.not_eq_true', Bool.or_eq_false_iff, decide_eq_false_iff_not] at q
      exact ⟨e, q.1, q.2⟩
  have gOf : ∀ b o, b ≠ a → b ≠ T → s.heap.get? b = some o → G.get? b = some o := fun b o h1 h2 e => by rw [g1 b (by simp [h1, h2])]; exact e
  have I6 : Inv X pins σ H { s with heap := G } := Inv.less J6 (fun b o e => (gIn b o e).1) gOf ⟨oe, vs, ga, hd⟩ ⟨oT, ts, gT, hdT⟩ na nT far0 farP
  have B6in : ∀ b o, (PySem.W.hideAll G (frs X.stack)).get? b = some o → s.heap.get? b = some o := fun b o e => (gIn b o (PySem.W.of_hideAll _ e)).1
  have Bno : ∀ b, (b = a ∨ b = T) → (PySem.W.hideAll G (frs X.stack)).get? b = none := fun b hb => by
    cases q : (PySem.W.hideAll G (frs X.stack)).get? b with
    | none => rfl
    | some o =>
      obtain ⟨_, n1, n2⟩ := gIn b o (PySem.W.of_hideAll _ q)
      rcases hb with z | z
      · exact absurd z n1
      · exact absurd z n2
  refine ⟨G, PySem.W.hideAll G (frs X.stack), I6, fun b o e hb => PySem.W.hideAll_get _ e hb, Heap.UpToSlots.of_keeps fun b o e => (gIn b o e).1, B6in, Bno a (.inl rfl), ?_, ⟨oe, vs, T, oT, ts, ga, hz, hd, hv1, Bno T (.inr rfl), hTe, gT, hdT, ht3⟩, na, I.bare⟩
  have ff := funFrames_none (B := PySem.W.hideAll G (frs X.stack)) J6.stack fun b hb => PySem.W.hideAll_none _ hb
  rw [← hs]; exact ff
end
end DL

/-! ### exceptions: clauses whose suites raise -/
namespace DL
open PySem PySem.Spec PyProof.Rows L2 HotX
abbrev suY (X : Cx) (a T : Addr) (oe oT : Obj) (pins : List (Addr × Obj)) (xe : Value → Shared → Prop) : Cx := { X.suite a ((a, oe) :: (T, oT) :: (X.pn ++ pins)) with xe := xe }
section
variable {X : Cx} {pins : List (Addr × Obj)} {σ : L2.St} {H : Hp} {s : Shared} {a T : Addr} {oe oT : Obj} {cls : Value} {d : Option Addr} {xe : Value → Shared → Prop} {v : Value} {Wo : WX}
theorem unsuY {pn' : List (Addr × Obj)} (I : Inv (suY X a T oe oT pins xe) pn' σ H s) (ok : X.Ok) : Inv X pins σ H s :=
  ⟨ok, I.os, I.bare, I.base, I.loc, I.cell, I.free, I.freeC, fun p hp => I.pin p (List.mem_append_left _ (List.mem_cons_of_mem _ (List.mem_cons_of_mem _ hp))), I.hok, I.len⟩
theorem Fly.hot (fl : Fly (L2N.Zn cls d) v X a T oe oT pins) : L2H.HotC (suY X a T oe oT pins xe) := by
  obtain ⟨hz, ⟨vs, ts, hd, hv1, hdT, ht3⟩, _⟩ := fl
  exact ⟨(a, oe), ⟨rfl, vs, hd, hz.2.2 vs hd⟩, List.mem_cons_self⟩
/-- raise -/
theorem ps_reraise {κ : Bool} {pos : Pos} (hs : X.stack = X.env :: X.outer) (hf : X.env.frame = some X.env.locals) (fl : Fly (L2N.Zn cls d) .none X a T oe oT pins) (tk : takB κ X Wo) : PS (suY X a T oe oT pins X.xe) (.Raise none none pos) (fun _ σ H => Wo cls d σ H) := by
  refine ⟨fun pn' s σ H D I h => ?_⟩
  obtain ⟨G, B, I6, nb, up, k1, k2, k3, tr, na, ag⟩ := fly_out hs fl I ⟨_, rfl⟩
  show wpAny _ _ (do standAt pos; raiseStmt X.env none none) _ _ _
  refine wpAny_bind (wpAny_standAt ?_)
  unfold raiseStmt
  dsimp only
  refine wpAny_bind (wpAny_handled ?_)
  rw [show (suY X a T oe oT pins X.xe).A.handled = some (Value.ref a) from rfl]
  dsimp only
  refine wpAny_bind (wpAny_rule ?_)
  obtain ⟨oe', vs, T', oT', ts, he, hz, hd, hv1, hr⟩ := id tr
  refine wpAny_bind (wpAny_field he hd hv1 ?_)
  rw [if_neg (show ¬ ((Value.ref T' == Value.none) = true) from by simp)]
  have fin : wpAny (model X.prog X.w) (suY X a T oe oT pins X.xe).A (setFlight (.ref a) X.env.frame) (fun _ s4 => wpAny (model X.prog X.w) (suY X a T oe oT pins X.xe).A (throw (.ref a) : Sem Flow) (SP (suY X a T oe oT pins X.xe) pn' D) X.xe s4) X.xe s := by
    rw [hf]
    exact HandSPX.setFlight_upZ ⟨k1, k2, k3, tr⟩ fun h4 hh4 up4 => wpAny_throw (tk _ _ ⟨a, B, { s with heap := G }, pins, σ, H, cls, d, rfl, I6, nb, up.trans up4, .inr (.inr (by
      rw [hs]
      exact ⟨hh4.1, hh4.2.1, hh4.2.2.1, L2H.tracedZ_imp (fun _ z => zB_up z) hh4.2.2.2⟩)), na, rfl, ag, h⟩)
  first
    | exact wpAny_bind (wpAny_pure (wpAny_bind fin))
    | exact wpAny_bind fin
/-- a wish behind a suite whose name goes -/
def wGone : Option Nat → WX → WX
  | none, W => W
  | some i, W => fun cls d σ H => W cls d (σ.set i none) H
inductive ClzX (κ : Bool) (X : Cx) (Wo : WX) : List ExceptHandler → List Clz → Prop
  | nil : ClzX κ X Wo [] []
  | plain {x : Str} {z : Clz} {b0 : Stmt} {bs : List Stmt} {p1 p2 : Pos} {hs : List ExceptHandler} {l : List Clz} (hi : z.i = none) (hc : Names X x z.c)
      (su : ∀ a T oe oT cls d pins, Fly (L2N.Zn cls d) .none X a T oe oT pins → takB κ X Wo → takB κ (suY X a T oe oT pins X.xe) Wo → PSs (suY X a T oe oT pins X.xe) (b0 :: bs) (z.ts a cls d)) (r : ClzX κ X Wo hs l) :
      ClzX κ X Wo (.ExceptHandler (some (.Name x p1)) none (b0 :: bs) p2 :: hs) (z :: l)
  | named {x n : Str} {i : Nat} {z : Clz} {b0 : Stmt} {bs : List Stmt} {p1 p2 : Pos} {hs : List ExceptHandler} {l : List Clz} (hi : z.i = some i) (hn : X.N[i]? = some n) (hl : X.env.kindOf n = some .local) (hc : Names X x z.c)
      (su : ∀ a T oe oT cls d pins xe, Fly (L2N.Zn cls d) .none X a T oe oT pins → takB κ (suY X a T oe oT pins xe) (wGone (some i) Wo) → PSs (suY X a T oe oT pins xe) (b0 :: bs) (z.ts a cls d)) (r : ClzX κ X Wo hs l) :
      ClzX κ X Wo (.ExceptHandler (some (.Name x p1)) (some n) (b0 :: bs) p2 :: hs) (z :: l)
end
section
variable {X : Cx} {pos : Pos} {Wo : WX}
/-- an exception leaves a suite whose name goes -/
theorem gone_fly {κ : Bool} {pins : List (Addr × Obj)} {hd : Option Value} {i : Nat} {n : Str} {s2 sI2 : Shared} {B2 h5 : Heap} {a2 : Addr} {σ2 : L2.St} {H2 : Hp} {cls2 : Value} {d2 : Option Addr} {E1 : Value → Shared → Prop} (hs : X.stack = X.env :: X.outer) (hf : X.env.frame = some X.env.locals) (hN : X.N.Nodup) (hex : X.ex = []) (ok : X.Ok)
    (hn : X.N[i]? = some n) (hl : X.env.kindOf n = some .local) (hpa : PassesOwnAt (model X.prog X.w) (X.A.mark hd) X.A X.env X.xe) (tk : takB κ X Wo) (J : Inv X pins σ2 H2 sI2) (nb : ∀ b o, sI2.heap.get? b = some o → b ∉ frs X.stack → B2.get? b = some o) (up : sI2.heap.UpToSlots h5)
    (hh : HandSPX.HeldZ B2 (X.env :: X.outer) a2 (zB κ cls2 d2) X.env.locals h5) (na : H2 a2 = none) (os : s2.os = sI2.os) (ag : AllBare s2.gens) (w : wGone (some i) Wo cls2 d2 σ2 H2) :
    wpAny (model X.prog X.w) (X.A.mark hd) (do bindName X.env n .none; unbindBehindTheSuite X.env n pos) (fun _ s4 => wpAny (model X.prog X.w) (X.A.mark hd) (passOn "try.except-as" (.ref a2) X.env : Sem Flow) (fun _ _ => False) (notedBy (model X.prog X.w) (X.A.mark hd) X.env fun x s' => cameBackBy (model X.prog X.w) X.A X.env X.xe x s') s4) E1 { s2 with heap := h5 } := by
  obtain ⟨T, oe, oT, F, I⟩ := fly_in hs hf hex ok J nb up hh.1 hh.2.1 hh.2.2.1 hh.2.2.2 na os ag
  refine gone_ok (X := suY X a2 T oe oT pins (fun _ _ => False)) (I X.A _) hN hn hl fun s7 J7 => ?_
  obtain ⟨G, B, I6, nb6, up6, k1, k2, k3, tr, na6, ag6⟩ := fly_out hs F J7 ⟨_, rfl⟩
  obtain ⟨oe', vs, T', oT', ts, he, hz, hd1, hv1, hr⟩ := id tr
  unfold PySem.passOn
  refine wpAny_bind (wpAny_field he hd1 hv1 ?_)
  rw [if_neg (show ¬ ((Value.ref T' == Value.none) = true) from by simp)]
  have fin : wpAny (model X.prog X.w) (X.A.mark hd) (setFlight (.ref a2) X.env.frame) (fun _ s4 => wpAny (model X.prog X.w) (X.A.mark hd) (throw (.ref a2) : Sem Flow) (fun _ _ => False) (notedBy (model X.prog X.w) (X.A.mark hd) X.env fun x s' => cameBackBy (model X.prog X.w) X.A X.env X.xe x s') s4) (notedBy (model X.prog X.w) (X.A.mark hd) X.env fun x s' => cameBackBy (model X.prog X.w) X.A X.env X.xe x s') s7 := by
    rw [hf]
    exact HandSPX.setFlight_onZ ⟨k1, k2, k3, tr⟩ fun h8 hh8 up8 => wpAny_throw (hpa _ _ (tk _ _ ⟨a2, B, { s7 with heap := G }, pins, _, H2, cls2, d2, rfl, I6, nb6, up6.trans up8, .inr (.inr (hs ▸ hh8)), na6, rfl, ag6, w⟩))
  first
    | exact wpAny_bind (wpAny_pure (wpAny_bind fin))
    | exact wpAny_bind fin
end
section
variable {X : Cx} {body : List Stmt} {h0 : ExceptHandler} {hds : List ExceptHandler} {l : List Clz} {pos : Pos} {tb : WX → TS} {Wo : WX}
theorem ps_clzX [k : Kd] (hs : X.stack = X.env :: X.outer) (hf : X.env.frame = some X.env.locals) (hN : X.N.Nodup) (hex : X.ex = []) (hpa : ∀ hd : Option Value, PassesOwnAt (model X.prog X.w) (X.A.mark hd) X.A X.env X.xe) (tk : Takes X Wo)
    (hb : ∀ W pn xe, takB true (X.tr pn xe) W → PassesOwn (model X.prog X.w) X.A X.env xe → PSs (X.tr pn xe) body (tb W)) (hh : ClzX k.b X Wo (h0 :: hds) l) :
    PS X (.Try body (h0 :: hds) [] [] pos) (fun D σ H => tb (wClz X.K Wo D l) D σ H) := by
  refine ⟨fun pins s σ H D I h => wpAny_Try_except ?_⟩
  have ok := I.ok
  have hfr : X.A.frames = some (X.env :: X.outer) := ok.frames.trans (congrArg some hs)
  refine wpAny_mono ((hb (wClz X.K Wo D l) (X.pn ++ pins) _ (fun u s' xx => ?_) PassesOwn.looking).run [] s σ H D (I.toTry _) h) (fun f s1 hsp => ?_) (fun _ _ z => z)
  · obtain ⟨a, B, sI, pins', σ1, H1, cls, d, rfl, J0, nb, up, sky, na, os, ag, w⟩ := xx
    have J := J0.ofTry ok
    show wpAny (model X.prog X.w) X.A (noteFrame (.ref a) X.env) _ _ _
    refine L2N.Sky.land L2N.Zn.steady hfr hf (hs ▸ sky) fun h3 fl up3 => ?_
    obtain ⟨T3, oe, oT3, F3, I3⟩ := fly_in hs hf hex ok J nb (up.trans up3) fl.1 fl.2.1 fl.2.2.1 fl.2.2.2 na os ag
    obtain ⟨ve, _, hd, _⟩ := F3.f
    have J3 : Inv X pins σ1 H1 { s' with heap := h3 } := J.landed nb fl.1 (up.trans up3) os ag
    have test : ∀ {x : Str} {c : Value} {np : Pos} {Q E : Value → Shared → Prop}, Names X x c → Q c { s' with heap := h3 } → wpAny (model X.prog X.w) (X.A.mark (some (.ref a))) (eval (.Name x np) X.env) Q E { s' with heap := h3 } := fun {x c np Q E} hc q => by
      rcases hc with ⟨hg, hdb, hm | ⟨hm, hv, hnn⟩⟩
      · exact ld_glob (X := suY X a T3 oe oT3 pins (fun _ _ => False)) (I3 X.A _) hg hm q hdb
      · exact ld_blt (X := suY X a T3 oe oT3 pins (fun _ _ => False)) (I3 X.A _) hg hm hv q hnn hdb
    have he : h3.get? a = some oe := ((I3 X.A (fun _ _ => False)).pin (a, oe) (List.mem_append_left _ List.mem_cons_self)).1
    have LT : PySem.W.Looks (model X.prog X.w) h3 (typeOf (.ref a)) cls := fun A Q E s k q => wpAny_typeOf_ref (k _ _ he) (F3.z.1 ▸ q)
    have go : ∀ {hs' : List ExceptHandler} {l' : List Clz}, ClzX k.b X Wo hs' l' → wClz X.K Wo D l' cls d σ1 H1 → wpAny (model X.prog X.w) X.A (handleBy (.ref a) X.env hs') (SP X pins D) X.xe { s' with heap := h3 } := by
      intro hs' l' hk
      induction hk with
      | nil =>
        intro w
        obtain ⟨k1, k2, k3, oe', vs, T, oT, ts', e1, e2, e3, e4, e5⟩ := id fl
        have out : wpAny (model X.prog X.w) X.A (setFlight (.ref a) X.env.frame) (fun _ s4 => wpAny (model X.prog X.w) X.A (throw (.ref a) : Sem Flow) (SP X pins D) X.xe s4) X.xe { s' with heap := h3 } := by
          rw [hf]
          exact HandSPX.setFlight_upZ fl fun h4 hh4 up4 => wpAny_throw (takN tk _ _ ⟨a, B, sI, pins, σ1, H1, cls, d, rfl, J, nb, (up.trans up3).trans up4, .inr (.inr (hs ▸ hh4)), na, os, ag, w⟩)
        refine wpAny_handleBy_nil ?_
        unfold PySem.passOn
        refine wpAny_bind (wpAny_field e1 e3 e4 ?_)
        rw [if_neg (by simp : ¬ ((Value.ref T == Value.none) = true))]
        first
          | exact wpAny_bind (wpAny_pure (wpAny_bind out))
          | exact wpAny_bind out
      | @plain x z b0 bs p1 p2 hs2 l2 hi hc su r ih =>
        rintro ⟨b, hb1, yes, no⟩
        rw [hi] at yes
        refine wpAny_handleBy_cons (codeAny_handlers_test (test hc ((PySem.W.exm_one (M := model X.prog X.w) J3.kIn LT hb1).here ?_))) (by intro q; cases q)
        cases b with
        | false => exact ih (no rfl)
        | true =>
          refine codeAny_handlers_suite (HandSPX.lands_againZ fl fun h4 fl4 up4 => ?_)
          obtain ⟨T4, oe4, oT4, F4, I4⟩ := fly_in hs hf hex ok J nb ((up.trans up3).trans up4) fl4.1 fl4.2.1 fl4.2.2.1 fl4.2.2.2 na os ag
          have tkS : takB k.b (suY X a T4 oe4 oT4 pins X.xe) Wo := fun u2 s2 ⟨a2, B2, sI2, pn2, σ2, H2, cls2, d2, e2, I2, nb2, up2, sky2, na2, os2, ag2, w2⟩ =>
            tk u2 s2 ⟨a2, B2, sI2, pins, σ2, H2, cls2, d2, e2, unsuY I2 ok, nb2, up2, sky2, na2, os2, ag2, w2⟩
          refine wpAny_mono ((su a T4 oe4 oT4 cls d pins F4 tk tkS).run [] _ _ H1 _ (I4 X.A X.xe) (yes rfl a na)) (fun f s6 hsp => ?_) (fun e6 s6 z => hpa (some (.ref a)) e6 s6 z)
          cases f with
          | ret u => obtain ⟨v6, σ6, H6, S6, r6, q6⟩ := hsp; exact ⟨_, _, _, unsuY S6 ok, r6, q6⟩
          | next => obtain ⟨σ6, H6, S6, q6⟩ := hsp; exact ⟨_, _, unsuY S6 ok, q6⟩
          | brk => obtain ⟨σ6, H6, S6, q6⟩ := hsp; exact ⟨_, _, unsuY S6 ok, q6⟩
          | cont => obtain ⟨σ6, H6, S6, q6⟩ := hsp; exact ⟨_, _, unsuY S6 ok, q6⟩
      | @named x n i z b0 bs p1 p2 hs2 l2 hi hn hl hc su r ih =>
        rintro ⟨b, hb1, yes, no⟩
        rw [hi] at yes
        refine wpAny_handleBy_cons (codeAny_handlers_test (test hc ((PySem.W.exm_one (M := model X.prog X.w) J3.kIn LT hb1).here ?_))) (by intro q; cases q)
        cases b with
        | false => exact ih (no rfl)
        | true =>
          refine codeAny_handlers_suite_as (HandSPX.lands_againZ fl fun h4 fl4 up4 => ?_)
          obtain ⟨T4, oe4, oT4, F4, I4⟩ := fly_in hs hf hex ok J nb ((up.trans up3).trans up4) fl4.1 fl4.2.1 fl4.2.2.1 fl4.2.2.2 na os ag
          refine store_ok (X := suY X a T4 oe4 oT4 pins (fun _ _ => False)) (v := .ref a) (I4 X.A _) hN hn (.inl hl) rfl (fun s5 S5 => ?_) (.inr hl)
          refine wpAny_mono ((su a T4 oe4 oT4 cls d pins _ F4 ?tkS).run [] s5 _ H1 _ (S5.wish _) (yes rfl a na)) (fun f s6 hsp => ?_) (fun e6 s6 z => z)
          · rintro u2 s2 ⟨a2, B2, sI2, pn2, σ2, H2, cls2, d2, rfl, I2, nb2, up2, sky2, na2, os2, ag2, w2⟩
            have J2 : Inv X pins σ2 H2 sI2 := unsuY I2 ok
            refine (show wpAny (model X.prog X.w) (X.A.mark (some (.ref a))) (noteFrame (.ref a2) X.env) _ _ s2 from ?_)
            have hfr' : (X.A.mark (some (Value.ref a))).frames = some (X.env :: X.outer) := hfr
            rw [show (suY X a T4 oe4 oT4 pins _).stack = X.env :: X.outer from hs] at sky2
            rcases sky2 with ⟨hB, hn2, hl2, oe2, vs2, he0, hz, hd2, hv1⟩ | fl2 | hh
            · exact PXN.look_newZ zB_steady hfr' hl2 hf he0 hB hn2 hd2 hv1 hz fun h5 hh5 up5 => gone_fly hs hf hN hex ok hn hl (hpa _) tk J2 nb2 (up2.trans up5) hh5 na2 os2 ag2 w2
            · exact PXN.looks_onZ zB_steady hfr' hf fl2 fun h5 hh5 up5 => gone_fly hs hf hN hex ok hn hl (hpa _) tk J2 nb2 (up2.trans up5) hh5 na2 os2 ag2 w2
            · exact HandSPX.againZ hf hh.2.2.2 (gone_fly hs hf hN hex ok hn hl (hpa _) tk J2 nb2 up2 hh na2 os2 ag2 w2)
          · cases f with
            | ret u => obtain ⟨v6, σ6, H6, S6, r6, q6⟩ := hsp; exact gone_ok (unsuY S6 ok) hN hn hl fun s7 J7 => ⟨_, _, _, J7, r6, q6⟩
            | next => obtain ⟨σ6, H6, S6, q6⟩ := hsp; exact gone_ok (unsuY S6 ok) hN hn hl fun s7 J7 => ⟨_, _, J7, q6⟩
            | brk => obtain ⟨σ6, H6, S6, q6⟩ := hsp; exact gone_ok (unsuY S6 ok) hN hn hl fun s7 J7 => ⟨_, _, J7, q6⟩
            | cont => obtain ⟨σ6, H6, S6, q6⟩ := hsp; exact gone_ok (unsuY S6 ok) hN hn hl fun s7 J7 => ⟨_, _, J7, q6⟩
    exact go hh w
  · cases f with
    | ret u => obtain ⟨v, σ1, H1, J, r, q⟩ := hsp; exact ⟨v, σ1, H1, J.ofTry ok, r, q⟩
    | next => obtain ⟨σ1, H1, J, q⟩ := hsp; exact wpAny_execs_nil ⟨σ1, H1, J.ofTry ok, q⟩
    | brk => obtain ⟨σ1, H1, J, q⟩ := hsp; exact ⟨σ1, H1, J.ofTry ok, q⟩
    | cont => obtain ⟨σ1, H1, J, q⟩ := hsp; exact ⟨σ1, H1, J.ofTry ok, q⟩
end
end DL

/-! ### raise X(..) from e, where e is the exception that is handled -/
namespace DL
open PySem PySem.Spec PyProof.Rows L2 HotX
section
variable {M : Model} {A : Around} {E : Value → Shared → Prop} {s : Shared}
theorem noType {a : Addr} {oe : Obj} {vs : Array Value} {Q : Bool → Shared → Prop} (ha : s.heap.get? a = some oe) (hd : oe.data = .fields vs) (q : Q false s) : wpAny M A (isType (.ref a)) Q E s := by
  simp only [isType, loadHead]
  exact wpAny_bind (wpAny_loadPart ha (by rw [hd]; exact wpAny_pure q))
theorem excVal {a : Addr} {oe : Obj} {vs : Array Value} {cls : Value} {m : String} {Q : Value → Shared → Prop} (ha : s.heap.get? a = some oe) (hc : oe.cls = cls) (hd : oe.data = .fields vs) (L : PySem.W.Looks M s.heap (isSubtype cls (.type "BaseException")) true) (q : Q (.ref a) s) : wpAny M A (excFromValue (.ref a) m) Q E s := by
  have LT : PySem.W.Looks M s.heap (typeOf (.ref a)) cls := fun A Q E s k q => wpAny_typeOf_ref (k _ _ ha) (by rw [hc]; exact q)
  have LI : PySem.W.Looks M s.heap (isInstance (.ref a) (.type "BaseException")) true := LT.andThen L
  unfold excFromValue isExcClass
  refine wpAny_bind (wpAny_bind (noType ha hd (by simp only [Bool.false_eq_true, if_false]; refine wpAny_pure ?_; simp only [Bool.false_eq_true, if_false]; refine wpAny_bind (LI.here ?_); simp only [if_true]; exact wpAny_pure q)))
/-- the heap behind «from x1» -/
def causeFrom (h : Heap) (a x1 : Addr) : Heap := (h.update a (Obj.mapFields (·.setIfInBounds 3 (.ref x1)))).update a (Obj.mapFields (·.setIfInBounds 4 (.bool true)))
theorem causeFrom_at {h : Heap} {a x1 : Addr} {oe : Obj} {vs : Array Value} (ha : h.get? a = some oe) (hd : oe.data = .fields vs) :
    (causeFrom h a x1).get? a = some ((oe.mapFields (·.setIfInBounds 3 (.ref x1))).mapFields (·.setIfInBounds 4 (.bool true))) ∧ ((oe.mapFields (·.setIfInBounds 3 (.ref x1))).mapFields (·.setIfInBounds 4 (.bool true))).data = .fields ((vs.setIfInBounds 3 (.ref x1)).setIfInBounds 4 (.bool true)) := by
  have d3 := Obj.data_mapFields hd (·.setIfInBounds 3 (.ref x1))
  have a3 := Heap.get?_update_self (Obj.mapFields (·.setIfInBounds 3 (.ref x1))) ha (Obj.isFreed_of_fields d3)
  have d4 := Obj.data_mapFields d3 (·.setIfInBounds 4 (.bool true))
  exact ⟨Heap.get?_update_self (Obj.mapFields (·.setIfInBounds 4 (.bool true))) a3 (Obj.isFreed_of_fields d4), d4⟩
theorem causeFrom_other {h : Heap} {a b x1 : Addr} (hne : a ≠ b) : (causeFrom h a x1).get? b = h.get? b := by
  unfold causeFrom
  rw [Heap.get?_update_other _ _ hne, Heap.get?_update_other _ _ hne]
end
theorem raise_hotF {prog : Program} {w : World} {A : Around} {E : Value → Shared → Prop} {env : PySem.Env} {s : Shared} {x c : Sem Value} {Q : Flow → Shared → Prop} {x1 : Addr}
    (h : wpAny (model prog w) A x (fun v s1 => ∃ a oe vs cls o1 v1 c1, v = .ref a ∧ s1.heap.get? a = some oe ∧ oe.cls = cls ∧ oe.data = .fields vs ∧ vs[1]? = some .none ∧ 4 < vs.size ∧ x1 ≠ a ∧ HotAt A x1 s1.heap ∧ s1.heap.get? x1 = some o1 ∧ o1.cls = c1 ∧ o1.data = .fields v1 ∧
      (∀ (Q' : Value → Shared → Prop), Q' (.ref x1) s1 → wpAny (model prog w) A c Q' E s1) ∧ PySem.W.Looks (model prog w) s1.heap (isSubtype cls (.type "BaseException")) true ∧ PySem.W.Looks (model prog w) s1.heap (isSubtype c1 (.type "BaseException")) true ∧ PySem.W.Looks (model prog w) (causeFrom s1.heap a x1) (typeOf cls) (.type "type") ∧
      E (.ref a) { s1 with heap := (causeFrom s1.heap a x1).update a (Obj.mapFields (·.setIfInBounds 2 (.ref x1))) }) E s) :
    wpAny (model prog w) A (raiseStmt env (some x) (some c)) Q E s := by
  unfold raiseStmt
  dsimp only
  refine wpAny_bind (wpAny_mono h (fun v s1 hh => ?_) fun _ _ x => x)
  obtain ⟨a, oe, vs, cls, o1, v1, c1, rfl, ha, hcls, hd, h1, hi, hne, hot, g1, hc1, d1, hcs, L1, L2, L3, hE⟩ := hh
  have d3 := Obj.data_mapFields hd (·.setIfInBounds 3 (.ref x1))
  have a3 := Heap.get?_update_self (Obj.mapFields (·.setIfInBounds 3 (.ref x1))) ha (Obj.isFreed_of_fields d3)
  obtain ⟨ha4, hd4⟩ := causeFrom_at (x1 := x1) ha hd
  have s3 : 3 < vs.size := by omega
  have s4 : 4 < (vs.setIfInBounds 3 (Value.ref x1)).size := by rw [set_size]; exact hi
  have s2 : 2 < ((vs.setIfInBounds 3 (Value.ref x1)).setIfInBounds 4 (Value.bool true)).size := by rw [set_size, set_size]; omega
  have h14 : ((vs.setIfInBounds 3 (Value.ref x1)).setIfInBounds 4 (Value.bool true))[1]? = some Value.none := set_other (by decide) (set_other (by decide) h1)
  have hcls4 : ((oe.mapFields (·.setIfInBounds 3 (.ref x1))).mapFields (·.setIfInBounds 4 (.bool true))).cls = cls := by rw [Obj.cls_mapFields, Obj.cls_mapFields]; exact hcls
  have LT4 : PySem.W.Looks (model prog w) (causeFrom s1.heap a x1) (typeOf (.ref a)) cls := fun A Q E s k q => wpAny_typeOf_ref (k _ _ ha4) (by rw [hcls4]; exact q)
  have hot4 : HotAt A x1 (causeFrom s1.heap a x1) := by
    obtain ⟨q1, o, vs', q2, q3, q4⟩ := hot
    exact ⟨q1, o, vs', by rw [causeFrom_other (Ne.symm hne)]; exact q2, q3, q4⟩
  have rest : wpAny (model prog w) A (do
      let b ← isType (.ref a)
      if b = true then do
        let e ← holding [.ref a] (raisedFor (.ref a) (.ref a))
        setFlight e none
        raiseNew e
      else do
        let e ← raisedInstance (.ref a)
        setFlight e none
        raiseNew e : Sem Flow) Q E { s1 with heap := causeFrom s1.heap a x1 } := by
    refine wpAny_bind (noType ha4 hd4 ?_)
    simp only [Bool.false_eq_true, if_false]
    unfold raisedInstance
    refine wpAny_bind (wpAny_bind (LT4.here (wpAny_bind (L3.here ?_))))
    rw [if_pos (beq_self_eq_true _)]
    refine wpAny_pure ?_
    unfold setFlight
    refine wpAny_bind (wpAny_bind (wpAny_field ha4 hd4 h14 ?_))
    rw [if_neg (by decide)]
    refine wpAny_pure ?_
    exact raiseNew_hot hot4 hne ha4 hd4 s2 hE
  refine wpAny_bind (wpAny_holding (hcs _ (wpAny_bind (wpAny_pure ?_))))
  dsimp only
  refine wpAny_bind (wpAny_holding (excVal ha hcls hd L1 ?_))
  rw [if_neg (show ¬ ((Value.ref x1 == Value.none) = true) from by simp)]
  refine wpAny_bind (wpAny_holding (excVal g1 hc1 d1 L2 ?_))
  first
  | refine wpAny_bind (wpAny_setField ha hd s3 (wpAny_bind (wpAny_setField a3 d3 s4 ?_)))
  | refine wpAny_bind (wpAny_bind (wpAny_setField ha hd s3 (wpAny_bind (wpAny_setField a3 d3 s4 ?_))))
  exact rest
section
variable {X : Cx} {pins : List (Addr × Obj)} {σ : L2.St} {H : Hp} {sI s1 : Shared} {M : Model} {A : Around} {E : Value → Shared → Prop}
/-- a slot is read where more stands -/
theorem slot_at {i : Nat} {x : Str} {pos : Pos} {v : V} {Q : Value → Shared → Prop} (I : Inv X pins σ H sI) (kp : ∀ b o, sI.heap.get? b = some o → s1.heap.get? b = some o) (hN : X.N[i]? = some x) (hv : Vis X.env.scope x) (e : σ[i]? = some (some v)) (q : ∀ u, RelV v u → Q u s1)
    (hd : (x == ("__debug__" : Str)) = false := by decide) (hcd : (x == ("__classdict__" : Str)) = false := by decide) : wpAny M A (eval (.Name x pos) X.env) Q E s1 := by
  obtain ⟨m, hn, hl⟩ := I.loc
  obtain ⟨u, r, l⟩ := hl i x v hN e hv
  have nk : s1.heap.Ns X.env.locals m := by
    obtain ⟨o, es, ep, e1, d, rr⟩ := hn
    exact ⟨o, es, ep, kp _ _ e1, d, rr⟩
  rcases l with ⟨hk, hm⟩ | ⟨hk, c, hc, hcell⟩
  · exact wpAny_Name (wpAny_loadName_local I.ok.kind hk nk hm (q u r)) hd
  · have ck : s1.heap.IsCell c (some u) := by
      obtain ⟨o, e1, d⟩ := hcell
      exact ⟨o, kp _ _ e1, d⟩
    rcases hk with hk | hk
    · exact wpAny_Name (wpAny_loadName_cell I.ok.kind hk hc ck (q u r)) hd
    · exact wpAny_Name (wpAny_loadName_free I.ok.kind hk hc ck (q u r) hcd) hd
/-- raise X(..) from n, n the exception that is handled -/
theorem ps_raiseF {W : WX} {e : Expr} {t : L2.St → Hp → XK → Prop} {n : Str} {i : Nat} {cpos pos : Pos} {a T : Addr} {oe oT : Obj} {cls : Value} {d : Option Addr} {xe : Value → Shared → Prop} (fl : Fly (L2N.Zn cls d) .none X a T oe oT pins) (r1 : Raises X cls)
    (tk : L2.Takes (suY X a T oe oT pins xe) W) (hN : X.N[i]? = some n) (hv : Vis X.env.scope n) (he : L2H.PMk5 (suY X a T oe oT pins xe) e t)
    (hd0 : (n == ("__debug__" : Str)) = false := by decide) (hcd : (n == ("__classdict__" : Str)) = false := by decide) :
    PS (suY X a T oe oT pins xe) (.Raise (some e) (some (.Name n cpos)) pos) (fun _ σ H => σ[i]? = some (some (.ref a)) ∧ t σ H fun cls d H' => W cls d σ H') := by
  refine ⟨fun pn' s σ H D I ⟨hσ, h⟩ => ?_⟩
  obtain ⟨p, ⟨hh, v1, e1, c1⟩, hp⟩ := Fly.hot (xe := xe) fl
  obtain ⟨hz1, ⟨w1, _, dw1, _⟩, _⟩ := id fl
  show wpAny _ _ (do standAt pos; raiseStmt X.env (some (do let v ← eval e X.env; standAt pos; pure v)) (some (do let v ← eval (.Name n cpos) X.env; standAt pos; pure v))) _ _ _
  refine wpAny_bind (wpAny_standAt (raise_hotF (x1 := p.1) (wpAny_bind (wpAny_mono (he pn' s σ H _ I h) (fun u s1 hu => wpAny_bind (wpAny_standAt (wpAny_pure ?_))) fun _ _ x => x))))
  obtain ⟨⟨b, ob, vs, sI, H', cls2, d2, rfl, J, k, hne, hb, hz, hd, h1, na, os, ag, r, q⟩, h5⟩ := hu
  have hi : 4 < vs.size := h5 b ob vs rfl hb hd
  have ea : p.1 = a := by
    have z : (some (Value.ref p.1) : Option Value) = some (.ref a) := hh.symm.trans rfl
    cases z; rfl
  have k4 : ∀ b' u, sI.heap.get? b' = some u → (causeFrom s1.heap b p.1).get? b' = some u := fun b' u z => by
    have nab : b ≠ b' := fun y => by rw [← y, hne] at z; cases z
    rw [causeFrom_other nab]
    exact k b' u z
  obtain ⟨q1, _⟩ := r (model X.prog X.w) s1.heap (J.kIn.keeps k)
  obtain ⟨_, q2⟩ := r (model X.prog X.w) (causeFrom s1.heap b p.1) (J.kIn.keeps k4)
  obtain ⟨q3, _⟩ := r1 (model X.prog X.w) s1.heap (J.kIn.keeps k)
  have P1 := (J.pin p (List.mem_append_left _ hp)).1
  have PA := (J.pin (a, oe) (List.mem_append_left _ List.mem_cons_self)).1
  have nap : p.1 ≠ b := fun z => by rw [z, hne] at P1; cases P1
  obtain ⟨hb4, hd4⟩ := causeFrom_at (x1 := p.1) hb hd
  have h12 : (((vs.setIfInBounds 3 (Value.ref p.1)).setIfInBounds 4 (Value.bool true)).setIfInBounds 2 (Value.ref p.1))[1]? = some Value.none := set_other (by decide) (set_other (by decide) (set_other (by decide) h1))
  refine ⟨b, ob, vs, cls2, oe, w1, cls, rfl, hb, hz.1, hd, h1, hi, nap, ⟨hh, p.2, v1, k _ _ P1, e1, c1⟩, by rw [ea]; exact k _ _ PA, hz1.1, dw1, fun Q' hq => ?_, q1, q3, q2, tk _ _ (XE.new J (fun b' u z => ?_) hne (Heap.get?_update_self _ hb4 (Obj.isFreed_of_fields (Obj.data_mapFields hd4 _)))
    ⟨by rw [Obj.cls_mapFields, Obj.cls_mapFields, Obj.cls_mapFields]; exact hz.1, by rw [HandSPX.dict_mapFields, HandSPX.dict_mapFields, HandSPX.dict_mapFields]; exact hz.2.1⟩ (Obj.data_mapFields hd4 _) h12 na os ag q)⟩
  · have I1 : Inv (suY X a T oe oT pins xe) pn' σ H s := I
    refine wpAny_bind (slot_at (X := suY X a T oe oT pins xe) (v := .ref a) J k hN hv ?_ (fun u ru => wpAny_bind (wpAny_standAt (wpAny_pure ?_))) hd0 hcd)
    · exact hσ
    · rw [show u = Value.ref a from ru, ← ea]
      exact hq
  · have nab : b ≠ b' := fun y => by rw [← y, hne] at z; cases z
    show ((causeFrom s1.heap b p.1).update b (Obj.mapFields (·.setIfInBounds 2 (.ref p.1)))).get? b' = some u
    rw [Heap.get?_update_other _ _ nab]
    exact k4 b' u z
end
end DL

/-! ### suites that raise, over data -/
namespace DL
open PySem PySem.Spec PyProof.Rows L2
section
variable {CX : CXT} {P : Program} {w : World} {K : PySem.W.Frag} {mg : Str → Option Value} {base : Heap} {x qual : Str} {params : Arguments} {body : List Stmt} {scope : Scope} {dvs : List V} {kws : List (Str × V)} {f : Addr} {fd : FuncData} {N ps : List Str} {k : Nat} {sp : Sp}
theorem funD_okH (F : FunD K x qual params body scope dvs kws f fd) (S : FnScope N ps scope) (len : ∀ vs H Q E, sp vs H Q E → vs.length = ps.length)
    (hb : ∀ (cdv : Value) (A : Around) (outer : List PySem.Env) (s : Shared) (H : Hp) (vs : List V) (Q : VK) (E : XK) (p : Addr × Obj), L2H.Hot1 A p → L2H.RoomH k (A.deeper (envOfC qual scope s.heap.objs.size f cdv)) → sp vs H Q E →
      ∃ t, PSs (L2H.cxH CX P w K mg base N qual scope f cdv A outer s H E p) body t ∧ t { nx := fun _ H' => Q .non H', rt := Q } (L2.start N vs) H) : L2H.FnH P w K mg base CX (k + 1) f fd ps sp := by
  obtain ⟨oc, od, dV, kV, doc, pm, an, cdv, ct, osl, rfl, lk, hcd, _, _⟩ := F.ex
  exact L2H.fn_ofH lk hcd S len fun A outer s H vs Q E p h1 hr hsp => hb cdv A outer s H vs Q E p h1 hr hsp
variable {C : Addr} {f1 m : Str}
/-- __init__ of an own exception, where an exception is handled -/
theorem okX1H (F : FunD K x qual params body scope [] [] f fd) (S : FnScope N ps scope) (hp : ps.length = 2) (T : OexC K C) (n1 : NoAttr K C f1) (hst : ∀ v0 v1, L2.start N [v0, v1] = [some v0, some v1])
    (hb : ∀ (cdv : Value) (A : Around) (outer : List PySem.Env) (s : Shared) (H : Hp) (E : XK) (p : Addr × Obj), PSs (L2H.cxH CX0 P w K mg base N qual scope f cdv A outer s H E p).nox body (tSeq (tDrop (tVeI K (tCons (tVar 0) (tCons (tC (.str m)) tNil)))) (tOst K f1 (tVar 0) (tVar 1)))) :
    L2H.FnH P w K mg base CX0 1 f fd ps (spX C [f1]) := by
  refine funD_okH F S (fun vs H Q E ⟨a, ws, e, hl, _⟩ => ?_) (fun cdv A outer s H vs Q E p h1 hr ⟨a, ws, e, hl, ea, q⟩ => ⟨_, (hb cdv A outer s H E p).nox, ?_⟩)
  · subst e
    show ws.length + 1 = _
    rw [hl, hp]; rfl
  · subst e
    match ws, hl, q with
    | [y], _, q =>
      rw [hst]
      exact ⟨_, rfl, a, C, _, rfl, (show 1 ≤ 1000 by decide), T, ea, _, rfl, _, rfl, a, C, rfl, T, n1, .inl ⟨ea, fun dx nd hd => q dx nd hd⟩⟩
end
section
variable {g : G} {Z F F' H H' : Hp} {W : WX} {σ : L2.St} {ρ : Env} {st : S} {X Y : Cx} {e : Expr} {es : List Expr} {pos p : Pos} {a T : Addr} {oe oT : Obj} {pins : List (Addr × Obj)} {xe : Value → Shared → Prop} {cls : Value} {d : Option Addr} {i : Option Nat}
def tSuX (g : G) (W : WX) (i : Option Nat) (a : Addr) (cls : Value) (d : Option Addr) (f : Ex → Env → MS) : TS := fun D σ H => ∃ x ρ Z F st E, RelEx g F cls d x ∧ Now g W Z σ H F ρ st E ∧ (∀ k, i = some k → σ[k]? = some (some (.ref a))) ∧ f x ρ st (ResF g Z F D) (Err E)
def SuX (g : G) (Y : Cx) (W : WX) (i : Option Nat) (a : Addr) (cls : Value) (d : Option Addr) (ss : List Stmt) (f : Ex → Env → MS) : Prop := PSs Y ss (tSuX g W i a cls d f)
/-- raise -/
def hre : Ex → Env → MS := fun x ρ => raiseM (x, ρ)
theorem su_re {κ : Bool} (hs : X.stack = X.env :: X.outer) (hf : X.env.frame = some X.env.locals) (fl : Fly (L2N.Zn cls d) .none X a T oe oT pins) (tk : takB κ X W) : SuX g (suY X a T oe oT pins X.xe) W i a cls d [.Raise none none pos] hre :=
  pss_one (PS.imp (ps_reraise hs hf fl tk) fun D σ H ⟨x, ρ, Z, F, st, E, rx, N, sl, q⟩ => N.lk x ρ st F H cls d σ (Same.refl _) N.sim N.env rx q)
def hsq (m : Env → MS) (f : Ex → Env → MS) : Ex → Env → MS := fun x ρ => bindM (m ρ) (thenF (f x))
theorem su_cons {s : Stmt} {ss : List Stmt} {m : Env → MS} {f : Ex → Env → MS} (h : FS g Y W s m) (k : SuX g Y W none a cls d ss f) (mf : MonoH f) : SuX g Y W none a cls d (s :: ss) (hsq m f) :=
  PSs.imp (pss_cons h.ps k) fun D σ H ⟨x, ρ, Z, F, st, E, rx, N, sl, q⟩ => by
    refine ⟨Z, F, st, ρ, E, N, h.mono ρ _ _ _ _ _ (fun fl s k => ?_) (fun _ _ x => x) q⟩
    cases fl with
    | nx ρ' => exact fun σ' F' H' e sim env => ⟨x, ρ', Z, F', s, E, rx.mono e, ⟨sim, env, N.lk.mono e⟩, (fun _ z => nomatch z), mf x ρ' _ _ _ _ _ (fun _ _ z => z.mono e) (fun _ _ x => x) k⟩
    | rt d => exact k
    | bk _ => exact k
    | ct _ => exact k
def hbl (m : Env → MS) : Ex → Env → MS := fun _ ρ => m ρ
theorem su_bl {ss : List Stmt} {m : Env → MS} (h : FB g Y W ss m) : SuX g Y W i a cls d ss (hbl m) :=
  PSs.imp h.ps fun D σ H ⟨x, ρ, Z, F, st, E, rx, N, sl, q⟩ => ⟨Z, F, st, ρ, E, N, q⟩
/-- raise X(..) from n -/
def hraiseF (xs : List Str) (c : Str) (ns : List Str) (m : Env → M Ex (List D)) : Ex → Env → MS := fun x ρ => bindM (fun s Q _ => x.c ∈ xs ∧ Q () s) fun (_ : Unit) => raiseS c ns m ρ
theorem mono_hraiseF {xs : List Str} {c : Str} {ns : List Str} {m : Env → M Ex (List D)} (h : ∀ ρ, Mono (m ρ)) : MonoH (hraiseF xs c ns m) := fun x ρ => mono_bind (fun _ _ _ _ _ hq _ ⟨z, q⟩ => ⟨z, hq _ _ q⟩) fun _ => mono_raiseS h ρ
theorem mono_hre : MonoH hre := fun _ _ => mono_raise _
theorem mono_hsq {m : Env → MS} {f : Ex → Env → MS} (h : ∀ ρ, Mono (m ρ)) (k : MonoH f) : MonoH (hsq m f) := fun x ρ => mono_bind (h ρ) (mono_thenF (k x))
theorem mono_hbl {m : Env → MS} (h : ∀ ρ, Mono (m ρ)) : MonoH (hbl m) := fun _ ρ => h ρ
instance {xs : List Str} {c : Str} {ns : List Str} {m : Env → M Ex (List D)} [MB m] : MHf (hraiseF xs c ns m) := ⟨mono_hraiseF MB.mono⟩
instance : MHf hre := ⟨mono_hre⟩
instance {m : Env → MS} {f : Ex → Env → MS} [MB m] [MHf f] : MHf (hsq m f) := ⟨mono_hsq MB.mono MHf.mono⟩
instance {m : Env → MS} [MB m] : MHf (hbl m) := ⟨mono_hbl MB.mono⟩
theorem su_raiseF {xs : List Str} {CX : CXT} {c n : Str} {ns : List Str} {k : Nat} {j : Nat} {fI : Addr} {fd : FuncData} {ps : List Str} {m : Env → M Ex (List D)} {cpos pos' : Pos} (fl : Fly (L2N.Zn cls d) .none X a T oe oT pins) (tk : takB false (suY X a T oe oT pins xe) W) (hK : X.K = g.K)
    (hxs : ∀ c' ∈ xs, PySem.W.subIn g.K (.ref (g.cl c')) (.type "BaseException") = some true ∧ PySem.W.typeIn g.K (.ref (g.cl c')) = some (.type "type"))
    (Tc : OexC g.K (g.cl c)) (iC : PySem.W.findIn g.K (.ref (g.cl c)) "__init__" = some (some (.ref fI))) (tI : PySem.W.typeIn g.K (.ref fI) = some (.type "function"))
    (F1 : L2H.FnH X.prog X.w X.K X.mg X.base CX k fI fd ps (spX (g.cl c) ns)) (hr : L2H.RoomH (k + 1) X.A) (hb : Binds X.K fd ps []) (hx : Passes CX (suY X a T oe oT pins xe) (fun _ _ _ => False)) (hg : Gl X c) (hm : X.mg c = some (.ref (g.cl c))) (hl : ns.length ≤ 900) (hN : X.N[j]? = some n) (hv : Vis X.env.scope n) (ha : FA g (suY X a T oe oT pins xe) W (e :: es) m)
    (hdb : (c == ("__debug__" : Str)) = false := by decide) (hd0 : (n == ("__debug__" : Str)) = false := by decide) (hcd : (n == ("__classdict__" : Str)) = false := by decide) (he : starEach (e :: es) X.env = (false, eval e X.env) :: starEach es X.env := by rfl) (hpl : (backTo pos (starEach es X.env)).any (·.1) = false := by rfl) :
    SuX g (suY X a T oe oT pins xe) W (some j) a cls d [.Raise (some (.Call (.Name c p) (e :: es) [] pos)) (some (.Name n cpos)) pos'] (hraiseF xs c ns m) := by
  rw [← hK] at Tc iC tI
  have KK : (suY X a T oe oT pins xe).K = X.K := rfl
  refine ⟨fun pins' s σ H D I q => ?_⟩
  obtain ⟨x, ρ, Z, F, st, E, rx, N, sl, hc, q⟩ := q
  have r1 : Raises X cls := by
    rw [rx.1]
    obtain ⟨b1, b2⟩ := hxs _ hc
    rw [← hK] at b1 b2
    exact raises_own b1 b2
  have pmk := L2H.pmk5_oexH (X := suY X a T oe oT pins xe) (p := p) Tc iC tI F1 ⟨hr.dp, hr.un⟩ (Fly.hot fl) hb hx hg hm ha.pa hdb he hpl
  refine (pss_one (ps_raiseF fl r1 tk hN hv pmk hd0 hcd)).run pins' s σ H D I ⟨sl j rfl, ?_⟩
  refine tS.go (R1 := RelDs g) N (ha.mono ρ) (fun _ => mono_ite (mono_raise _) mono_fail) q fun ds vs F st H1 e N r q => ?_
  by_cases hn : ds.length = ns.length
  · rw [if_pos hn] at q
    refine ⟨by rw [r.len, hn]; omega, fun a na => ⟨a, vs, by rw [List.append_nil], r.len.trans hn, upd_same, fun dx nd hd => ⟨rfl, dx, _, upd_same, by rw [upd_ne hd, upd_same], by rw [upd_ne hd] at nd; exact nd, ?_⟩⟩⟩
    rw [upd_ne hd] at nd
    rw [heap_x na hd]
    have s2 := same_upd (o := .xd (ns.zip vs).reverse) (N.sim.free nd).1
    have hlv : vs.length = ns.length := r.len.trans hn
    refine N.lk _ _ _ _ _ _ _ _ s2 (N.sim.new nd) (N.env.mono s2) ⟨rfl, .inr ⟨dx, _, rfl, upd_same, ?_, ?_⟩⟩ q
    · rw [List.map_reverse, List.map_fst_zip (Nat.le_of_eq hlv.symm)]
    · rw [List.map_reverse, List.map_snd_zip (Nat.le_of_eq hlv)]
      exact (r.mono s2).rev
  · rw [if_neg hn] at q
    exact q.elim
/-! try -/
def suMX (h : HD) (x : Ex) (ρ : Env) : MS := fun s Q E => okI h.i ρ ∧ h.f x (clrE h.i ρ) s (fun fl s' => Q (clrF h.i fl) s') (fun y s' => E (y.1, clrE h.i y.2) s')
def hdlX (sub : Str → Str → Option Bool) : List HD → Ex → Env → MS
  | [], x, ρ => raiseM (x, ρ)
  | h :: r, x, ρ => fun s Q E => ∃ b, sub x.c h.c = some b ∧ (if b = true then suMX h x ρ s Q E else hdlX sub r x ρ s Q E)
def tryX (sub : Str → Str → Option Bool) (m : Env → MS) (l : List HD) : Env → MS := fun ρ s Q E => m ρ s Q (fun x s' => hdlX sub l x.1 x.2 s' Q E)
theorem mono_suMX {h : HD} {x : Ex} (k : MonoH h.f) : Mono (suMX h x ρ) := fun s Q Q' E E' hq he ⟨o, z⟩ => ⟨o, k _ _ s _ _ _ _ (fun fl s' z => hq _ _ z) (fun _ _ z => he _ _ z) z⟩
theorem mono_hdlX {sub : Str → Str → Option Bool} : ∀ {l : List HD} {x : Ex} {ρ : Env}, (∀ h ∈ l, MonoH h.f) → Mono (hdlX sub l x ρ)
  | [], x, ρ, _ => mono_raise _
  | h :: r, x, ρ, k => fun s Q Q' E E' hq he ⟨b, e, z⟩ => ⟨b, e, by
    cases b with
    | true => exact mono_suMX (k h List.mem_cons_self) s Q Q' E E' hq he z
    | false => exact mono_hdlX (fun h' m => k h' (List.mem_cons_of_mem _ m)) s Q Q' E E' hq he z⟩
theorem mono_tryX {sub : Str → Str → Option Bool} {m : Env → MS} {l : List HD} (h : ∀ ρ, Mono (m ρ)) (k : ∀ h ∈ l, MonoH h.f) : ∀ ρ, Mono (tryX sub m l ρ) := fun ρ s Q Q' E E' hq he z => h ρ s _ _ _ _ hq (fun x s' z => mono_hdlX k s' Q Q' E E' hq he z) z
instance {sub : Str → Str → Option Bool} {m : Env → MS} {l : List HD} [MB m] [MH l] : MB (tryX sub m l) := ⟨mono_tryX MB.mono MH.mono⟩
def clzX (g : G) (W : WX) (h : HD) : Clz := ⟨.ref (g.cl h.c), h.i, fun a cls d => tSuX g (wGone h.i W) h.i a cls d h.f⟩
theorem lk_gone {E : Ex → Env → S → Prop} (h : Lk g W Z F E) : ∀ {i : Option Nat}, Lk g (wGone i W) Z F (fun x ρ s => E x (clrE i ρ) s)
  | none => h
  | some i => fun x ρ st F' H' u d σ s sim env rx z => h x (ρ.set i none) st F' H' u d (σ.set i none) s sim env.none rx z
theorem fs_tryX [k : Kd] {sub : Str → Str → Option Bool} {m : Env → MS} {l : List HD} {body : List Stmt} {h0 : ExceptHandler} {hds : List ExceptHandler} [MH l] (hs : X.stack = X.env :: X.outer) (hf : X.env.frame = some X.env.locals) (hN : X.N.Nodup) (hex : X.ex = []) (hpa : ∀ hd : Option Value, PassesOwnAt (model X.prog X.w) (X.A.mark hd) X.A X.env X.xe) (tk : Takes X W)
    (hsub : ∀ c1 c2 b, sub c1 c2 = some b → PySem.W.exmOne X.K (.ref (g.cl c1)) (.ref (g.cl c2)) = some b)
    (hm : ∀ ρ, Mono (m ρ)) (hb : ∀ (k2 : Kd), k2.b = true → ∀ W pn xe, @Takes k2 (X.tr pn xe) W → PassesOwn (model X.prog X.w) X.A X.env xe → FB g (X.tr pn xe) W body m) (hh : ClzX k.b X W (h0 :: hds) (l.map (clzX g W))) :
    FS g X W (.Try body (h0 :: hds) [] [] pos) (tryX sub m l) := by
  refine ⟨PS.imp (ps_clzX hs hf hN hex hpa tk (fun W pn xe t po => (hb ⟨true⟩ rfl W pn xe t po).ps) hh) fun D σ H ⟨Z, F, st, ρ, E, N, q⟩ => ?_, mono_tryX hm MH.mono⟩
  refine ⟨Z, F, st, ρ, fun x ρ' s' => hdlX sub l x ρ' s' (ResF g Z F D) (Err E), ⟨N.sim, N.env, fun x ρ' st' F' H' u d σ' s1 sim env rx z => ?_⟩, q⟩
  have key : ∀ {l : List HD}, (∀ h ∈ l, MonoH h.f) → hdlX sub l x ρ' st' (ResF g Z F D) (Err E) → wClz X.K W D (l.map (clzX g W)) u d σ' H' := by
    intro l
    induction l with
    | nil => exact fun _ z => N.lk x ρ' st' F' H' u d σ' s1 sim env rx z
    | cons h r ih =>
      rintro k ⟨b, eb, z⟩
      have hx := hsub _ _ _ eb
      rw [← rx.1] at hx
      cases b with
      | false => exact ⟨false, hx, fun c => (by cases c), fun _ => ih (fun h' m => k h' (List.mem_cons_of_mem _ m)) z⟩
      | true =>
        refine ⟨true, hx, fun _ a na => ?_, fun c => (by cases c)⟩
        obtain ⟨ho, z⟩ := z
        refine ⟨x, clrE h.i ρ', Z, F', st', fun y ρ s => E y (clrE h.i ρ) s, rx, ⟨sim, renv_put env, lk_gone (N.lk.mono s1)⟩, fun n e => ?_, k h List.mem_cons_self _ _ _ _ _ _ _ (fun fl s2 y => ?_) (fun _ _ y => y) z⟩
        · show (putS h.i a σ')[n]? = _
          rw [show h.i = some n from e]
          have hl : n < σ'.length := by rw [env.1]; rw [show h.i = some n from e] at ho; exact ho
          show (σ'.set n (some (.ref a)))[n]? = _
          rw [List.getElem?_set_self hl]
        · cases fl with
          | nx ρ2 => exact fun σ2 F2 H2 s3 sim2 env2 => y _ F2 H2 (s1.trans s3) sim2 (renv_clr env2)
          | rt v => exact fun v F2 H2 s3 sim2 r2 => y v F2 H2 (s1.trans s3) sim2 r2
          | bk ρ2 => exact fun σ2 F2 H2 s3 sim2 env2 => y _ F2 H2 (s1.trans s3) sim2 (renv_clr env2)
          | ct ρ2 => exact fun σ2 F2 H2 s3 sim2 env2 => y _ F2 H2 (s1.trans s3) sim2 (renv_clr env2)
  exact key MH.mono z
/-- suites that set or return alone, here too -/
theorem su_old {Y : Cx} {ss : List Stmt} {f : Ex → Env → MS} (h : PSs Y ss (tSu g i a cls d f)) (hf : ∀ x ρ st Q E, f x ρ st Q E → f x ρ st Q fun _ _ => False) : SuX g Y W i a cls d ss f :=
  PSs.imp h fun D σ H ⟨x, ρ, Z, F, st, E, rx, N, sl, q⟩ => ⟨x, ρ, Z, F, st, rx, N.sim, N.env, sl, hf _ _ _ _ _ q⟩
end
section
variable {ρ : Env} {s : S} {QF : Fl → S → Prop} {EE : Ex × Env → S → Prop} {x : Ex} {sub : Str → Str → Option Bool} {m : Env → MS} {l : List HD} {h : HD} {as : Env → M Ex (List D)} {c f : Str} {ns xs : List Str}
theorem x_tryX : tryX sub m l ρ s QF EE = m ρ s QF (fun x s' => hdlX sub l x.1 x.2 s' QF EE) := rfl
theorem x_hdlX_nil : hdlX sub [] x ρ s QF EE = EE (x, ρ) s := rfl
theorem x_hdlX_yes (e : sub x.c h.c = some true) : hdlX sub (h :: l) x ρ s QF EE = suMX h x ρ s QF EE := by
  refine propext ⟨fun ⟨b, e1, z⟩ => ?_, fun z => ⟨true, e, by rw [if_pos rfl]; exact z⟩⟩
  rw [e] at e1
  cases (Option.some.inj e1)
  rw [if_pos rfl] at z
  exact z
theorem x_hdlX_no (e : sub x.c h.c = some false) : hdlX sub (h :: l) x ρ s QF EE = hdlX sub l x ρ s QF EE := by
  refine propext ⟨fun ⟨b, e1, z⟩ => ?_, fun z => ⟨false, e, by rw [if_neg Bool.false_ne_true]; exact z⟩⟩
  rw [e] at e1
  cases (Option.some.inj e1)
  rw [if_neg Bool.false_ne_true] at z
  exact z
theorem x_suMX {i : Option Nat} {fh : Ex → Env → MS} : suMX ⟨c, i, fh⟩ x ρ s QF EE = (okI i ρ ∧ fh x (clrE i ρ) s (fun fl s' => QF (clrF i fl) s') (fun y s' => EE (y.1, clrE i y.2) s')) := rfl
theorem x_hre : hre x ρ s QF EE = EE (x, ρ) s := rfl
theorem x_hsq {fh : Ex → Env → MS} : hsq m fh x ρ s QF EE = m ρ s (fun fl s' => thenF (fh x) fl s' QF EE) EE := rfl
theorem x_hbl : hbl m x ρ s QF EE = m ρ s QF EE := rfl
theorem x_hraiseF : hraiseF xs c ns as x ρ s QF EE = (x.c ∈ xs ∧ raiseS c ns as ρ s QF EE) := rfl
end
/-- exceptions may have a context -/
abbrev kf : Kd := ⟨false⟩
instance : Kd := kf
def exbB (xs : List Str) (K : PySem.W.Frag) : Bool := xs.all fun c => decide (PySem.W.subIn K (.ref (He.ga K c)) (.type "BaseException") = some true) && decide (PySem.W.typeIn K (.ref (He.ga K c)) = some (.type "type"))
theorem exbB_ok {xs : List Str} {K : PySem.W.Frag} (h : exbB xs K = true) : ∀ c ∈ xs, PySem.W.subIn K (.ref (He.ga K c)) (.type "BaseException") = some true ∧ PySem.W.typeIn K (.ref (He.ga K c)) = some (.type "type") := fun c hc => by
  have z := He.ba (List.all_eq_true.mp h c hc)
  exact ⟨of_decide_eq_true z.1, of_decide_eq_true z.2⟩
def findD : P2 := str2 fun a b => some (.int (Txt.find a b))
theorem mr_find {g : G} {X : Cx} : MtR X "str.find" (rM1 g findD) := MtR.imp mt_find fun x xs H Q ⟨y, e, Z, F, st, dx, dy, d, sim, rx, ry, h, q⟩ => by
  obtain ⟨a, b, rfl, rfl, h⟩ := str2_inv h
  cases h
  unfold RelD at rx ry
  exact ⟨a, b, rx, by rw [e, ry], q _ F H (Same.refl _) sim relD_int⟩
end DL

namespace DL
def runs_D43 := And.intro @x_tryX (And.intro @x_hdlX_nil (And.intro @x_suMX (And.intro @x_hre (And.intro @x_hsq (And.intro @x_hbl (@x_hraiseF))))))
end DL
/-! ### dict(zip(a list, a tuple)) -/
namespace DL
open PySem PySem.Spec PyProof.Rows L2
/-- what a zip draws from: an iterator i; At k: it stands ahead of xs[k] -/
structure ZSrc (prog : Program) (w : World) (i : Addr) (fp : List Addr) (xs : Array Value) (At : Nat → Heap → Prop) : Prop where
  me : i ∈ fp
  there : ∀ {k : Nat} {h : Heap}, At k h → ∀ b ∈ fp, ∃ o, h.get? b = some o
  stay : ∀ {k : Nat} {h h' : Heap}, At k h → (∀ b ∈ fp, ∀ o, h.get? b = some o → h'.get? b = some o) → At k h'
  item : ∀ {A : Around} {E : Value → Shared → Prop} {u : Shared} {k : Nat} {x : Value} {R : Value → Shared → Prop}, At k u.heap → xs[k]? = some x →
    (∀ h', At (k + 1) h' → Heap.SameBut i u.heap h' → R x { u with heap := h' }) → wpAny (model prog w) A (Builtin.SmallTypes.nextOf (.ref i)) R E u
  stop : ∀ {A : Around} {E : Value → Shared → Prop} {u : Shared} {k : Nat} {R : Value → Shared → Prop}, A.handled = none → At k u.heap → xs[k]? = none →
    (∀ h' e, Heap.ExtBut i u.heap h' → (∃ o, h'.get? e = some o ∧ o.cls = .type "StopIteration") → E (.ref e) { u with heap := h' }) → wpAny (model prog w) A (Builtin.SmallTypes.nextOf (.ref i)) R E u
section
variable {prog : Program} {w : World}
theorem zsrc_list {i l : Addr} {xs : Array Value} (n : l ≠ i) : ZSrc prog w i [i, l] xs fun k h => h.IsListIter i l k ∧ h.IsList l xs where
  me := .head _
  there := fun ⟨⟨o, e, _⟩, ⟨p, f, _⟩⟩ b hb => by
    rcases List.mem_cons.mp hb with rfl | hb
    · exact ⟨o, e⟩
    · cases List.mem_singleton.mp hb; exact ⟨p, f⟩
  stay := fun ⟨a, b⟩ k => ⟨a.at (k _ (.head _)), b.at (k _ (.tail _ (.head _)))⟩
  item := fun ⟨a, b⟩ hx q => wpAny_nextOf_list_item a b hx fun h' a' sb => q h' ⟨a', b.extBut sb.extBut n⟩ sb
  stop := fun hh ⟨a, b⟩ hx q => wpAny_nextOf_list_end hh a b hx q
theorem zsrc_tup {i l : Addr} {xs : Array Value} (n : l ≠ i) : ZSrc prog w i [i, l] xs fun k h => h.IsTupleIter i l k ∧ h.IsTuple l xs where
  me := .head _
  there := fun ⟨⟨o, e, _⟩, ⟨p, f, _⟩⟩ b hb => by
    rcases List.mem_cons.mp hb with rfl | hb
    · exact ⟨o, e⟩
    · cases List.mem_singleton.mp hb; exact ⟨p, f⟩
  stay := fun ⟨a, b⟩ k => ⟨a.at (k _ (.head _)), b.at (k _ (.tail _ (.head _)))⟩
  item := fun ⟨a, b⟩ hx q => RZ.nextOf_tuple_item a b hx fun h' a' sb => q h' ⟨a', b.extBut sb.extBut n⟩ sb
  stop := fun hh ⟨a, b⟩ hx q => RZ.nextOf_tuple_end hh a b hx q
/-- a zip's own places lie apart from its sources -/
structure ZAp (z TI TO i1 i2 : Addr) (f1 f2 : List Addr) : Prop where
  n1 : TI ≠ z
  n2 : TO ≠ z
  n3 : TI ≠ TO
  z1 : z ∉ f1
  z2 : z ∉ f2
  t1 : TI ∉ f1
  t2 : TI ∉ f2
  o1 : TO ∉ f1
  o2 : TO ∉ f2
  a1 : i1 ∉ f2
  a2 : i2 ∉ f1
variable {i1 i2 : Addr} {f1 f2 : List Addr} {xs ys : Array Value} {A1 A2 : Nat → Heap → Prop}
theorem ZSrc.ext {i c : Addr} {fp : List Addr} {At : Nat → Heap → Prop} {k : Nat} {h h' : Heap} (S : ZSrc prog w i fp xs At) (a : At k h) (e : Heap.ExtBut c h h') (n : c ∉ fp) : At k h' :=
  S.stay a fun b hb o q => e b o (fun z => n (z ▸ hb)) q
theorem ZSrc.ne {i c : Addr} {fp : List Addr} {At : Nat → Heap → Prop} (S : ZSrc prog w i fp xs At) (n : c ∉ fp) : c ≠ i := fun z => n (z ▸ S.me)

section
variable {A : Around} {E : Value → Shared → Prop} {u : Shared} {z TI TO T : Addr} {k : Nat} {x y : Value}
/-- the first pair -/
theorem zs_first {a b : Value} {R : Value → Shared → Prop} (S1 : ZSrc prog w i1 f1 xs A1) (S2 : ZSrc prog w i2 f2 ys A2) (D : ZAp z TI TO i1 i2 f1 f2)
    (gz : IsZip u.heap z TI TO .none) (gI : IsPair u.heap TI (.ref i1) (.ref i2)) (gO : IsPair u.heap TO a b) (p1 : A1 k u.heap) (p2 : A2 k u.heap) (ex : xs[k]? = some x) (ey : ys[k]? = some y)
    (q : ∀ h', IsZipHeld h' z TI TO u.heap.objs.size false → IsPair h' TO x y → A1 (k + 1) h' → A2 (k + 1) h' → IsPair h' u.heap.objs.size x y →
      (∀ c o, c ≠ z → c ≠ TO → c ≠ i1 → c ≠ i2 → u.heap.get? c = some o → h'.get? c = some o) → R (.ref u.heap.objs.size) { u with heap := h' }) :
    wpAny (model prog w) A (Builtin.«zip.__next__» ⟨[.ref z], []⟩) (fun r u' => ∃ v, r = .done (.ret v) ∧ R v u') E u := by
  have z1 : z ≠ i1 := S1.ne D.z1
  have z2 : z ≠ i2 := S2.ne D.z2
  have o1 : TO ≠ i1 := S1.ne D.o1
  have o2 : TO ≠ i2 := S2.ne D.o2
  show wpAny _ _ (field (.ref z) 2 >>= fun _ => _) _ _ u
  refine wpAny_bind (wpAny_field gz rfl (x := Value.bool false) rfl ?_)
  show wpAny _ _ (field (.ref z) 3 >>= fun _ => _) _ _ u
  refine wpAny_bind (wpAny_field gz rfl (x := Value.ref TI) rfl (wpAny_bind (wpAny_seqItems gI rfl ?_)))
  show wpAny _ _ (Builtin.SmallTypes.ownedTupleIsFree (.ref z) >>= fun _ => _) _ _ u
  refine wpAny_bind ?_
  unfold Builtin.SmallTypes.ownedTupleIsFree
  refine wpAny_bind (wpAny_field gz rfl (x := Value.none) rfl (wpAny_pure ?_))
  simp only [if_true]
  refine wpAny_bind (wpAny_rule (wpAny_bind (wpAny_field gz rfl (x := Value.ref TO) rfl (wpAny_bind (wpAny_setField_rec gz (by simp) fun j1 gz1 e1 => ?_)))))
  replace gz1 : IsZip j1 z TI TO .ellipsis := gz1
  replace e1 : Heap.SameBut z u.heap j1 := e1
  refine wpAny_bind ?_
  simp only [List.zipIdx_cons, List.zipIdx_nil, List.forIn_cons, List.forIn_nil]
  refine wpAny_bind (wpAny_bind (wpAny_onRaise ?_))
  show wpAny _ _ (Builtin.SmallTypes.nextOf (.ref i1) >>= fun _ => _) _ _ { u with heap := j1 }
  refine wpAny_bind (S1.item (u := { u with heap := j1 }) (S1.ext p1 e1.extBut D.z1) ex fun j2 r1 e2 => wpAny_pure ?_)
  replace e2 : Heap.SameBut i1 j1 j2 := e2
  have gO2 : IsPair j2 TO a b := e2.extBut _ _ o1 (e1.extBut _ _ D.n2 gO)
  refine wpAny_bind (wpAny_seqItems (s := { u with heap := j2 }) gO2 rfl (wpAny_bind (wpAny_updateSeq_pair (s := { u with heap := j2 }) gO2 fun j3 gO3 e3 => wpAny_bind (wpAny_letGo (wpAny_pure ?_)))))
  replace gO3 : IsPair j3 TO x b := gO3
  replace e3 : Heap.SameBut TO j2 j3 := e3
  refine wpAny_bind (wpAny_bind (wpAny_onRaise ?_))
  show wpAny _ _ (Builtin.SmallTypes.nextOf (.ref i2) >>= fun _ => _) _ _ { u with heap := j3 }
  refine wpAny_bind (S2.item (u := { u with heap := j3 }) (S2.ext (S2.ext (S2.ext p2 e1.extBut D.z2) e2.extBut D.a1) e3.extBut D.o2) ey fun j4 r2 e4 => wpAny_pure ?_)
  replace e4 : Heap.SameBut i2 j3 j4 := e4
  have gO4 : IsPair j4 TO x b := e4.extBut _ _ o2 gO3
  refine wpAny_bind (wpAny_seqItems (s := { u with heap := j4 }) gO4 rfl (wpAny_bind (wpAny_updateSeq_pair (s := { u with heap := j4 }) gO4 fun j5 gO5 e5 => wpAny_bind (wpAny_letGo (wpAny_pure (wpAny_pure ?_))))))
  replace gO5 : IsPair j5 TO x y := gO5
  replace e5 : Heap.SameBut TO j4 j5 := e5
  have up5 : ∀ c o, c ≠ z → c ≠ TO → c ≠ i1 → c ≠ i2 → u.heap.get? c = some o → j5.get? c = some o := fun c o b1 b2 b3 b4 e =>
    e5.extBut _ _ b2 (e4.extBut _ _ b4 (e3.extBut _ _ b2 (e2.extBut _ _ b3 (e1.extBut _ _ b1 e))))
  have sz : j5.objs.size = u.heap.objs.size := e5.1.trans (e4.1.trans (e3.1.trans (e2.1.trans e1.1)))
  have gz5 : IsZip j5 z TI TO .ellipsis := e5.extBut _ _ D.n2.symm (e4.extBut _ _ z2 (e3.extBut _ _ D.n2.symm (e2.extBut _ _ z1 gz1)))
  have s1 : A1 (k + 1) j5 := S1.ext (S1.ext (S1.ext r1 e3.extBut D.o1) e4.extBut D.a2) e5.extBut D.o1
  have s2 : A2 (k + 1) j5 := S2.ext r2 e5.extBut D.o2
  refine wpAny_bind (wpAny_seqItems (s := { u with heap := j5 }) gO5 rfl (wpAny_bind (wpAny_newTuple ?_)))
  show wpAny _ _ (Builtin.SmallTypes.ownedTupleHandOut (.ref z) (.ref j5.objs.size) >>= fun _ => _) _ _ { u with heap := j5.push { cls := .type "tuple", data := .seq #[x, y] } }
  refine wpAny_bind ?_
  unfold Builtin.SmallTypes.ownedTupleHandOut
  have gz6 : IsZip (j5.push { cls := .type "tuple", data := .seq #[x, y] }) z TI TO .ellipsis := Heap.get?_push_of_some _ gz5
  refine wpAny_bind (wpAny_setField_rec (s := { u with heap := j5.push { cls := .type "tuple", data := .seq #[x, y] } }) gz6 (by simp) fun j7 gz7 e7 => ?_)
  replace gz7 : IsZip j7 z TI TO (rawInt j5.objs.size) := gz7
  replace e7 : Heap.SameBut z (j5.push { cls := .type "tuple", data := .seq #[x, y] }) j7 := e7
  refine wpAny_setField_rec (s := { u with heap := j7 }) gz7 (by simp) fun j8 gz8 e8 => wpAny_pure ⟨_, rfl, ?_⟩
  replace gz8 : IsZipHeld j8 z TI TO j5.objs.size false := gz8
  replace e8 : Heap.SameBut z j7 j8 := e8
  have up8 : ∀ c o, c ≠ z → j5.get? c = some o → j8.get? c = some o := fun c o b1 e => e8.extBut _ _ b1 (e7.extBut _ _ b1 (Heap.get?_push_of_some _ e))
  have nz : j5.objs.size ≠ z := Nat.ne_of_gt (Heap.lt_size gz5)
  have gp : IsPair j8 j5.objs.size x y := e8.extBut _ _ nz (e7.extBut _ _ nz (Heap.get?_push_size _ rfl))
  show R (.ref j5.objs.size) { u with heap := j8 }
  rw [sz] at gz8 gp ⊢
  exact q j8 gz8 (up8 _ _ D.n2 gO5) (S1.stay s1 fun c hc o e => up8 c o (fun n => D.z1 (n ▸ hc)) e) (S2.stay s2 fun c hc o e => up8 c o (fun n => D.z2 (n ▸ hc)) e) gp fun c o b1 b2 b3 b4 e => up8 c o b1 (up5 c o b1 b2 b3 b4 e)
/-- no first pair -/
theorem zs_none {a b : Value} {R : PySem.Fin → Shared → Prop} (S1 : ZSrc prog w i1 f1 xs A1) (S2 : ZSrc prog w i2 f2 ys A2) (D : ZAp z TI TO i1 i2 f1 f2) (hh : A.handled = none)
    (gz : IsZip u.heap z TI TO .none) (gI : IsPair u.heap TI (.ref i1) (.ref i2)) (gO : IsPair u.heap TO a b) (p1 : A1 k u.heap) (p2 : A2 k u.heap) (ed : xs[k]? = none ∨ ys[k]? = none)
    (q : ∀ h' e, (∀ c o, c ≠ z → c ≠ TO → c ≠ i1 → c ≠ i2 → u.heap.get? c = some o → h'.get? c = some o) → (∃ o, h'.get? e = some o ∧ o.cls = .type "StopIteration") → E (.ref e) { u with heap := h' }) :
    wpAny (model prog w) A (Builtin.«zip.__next__» ⟨[.ref z], []⟩) R E u := by
  have z1 : z ≠ i1 := S1.ne D.z1
  have z2 : z ≠ i2 := S2.ne D.z2
  have o1 : TO ≠ i1 := S1.ne D.o1
  show wpAny _ _ (field (.ref z) 2 >>= fun _ => _) _ _ u
  refine wpAny_bind (wpAny_field gz rfl (x := Value.bool false) rfl ?_)
  show wpAny _ _ (field (.ref z) 3 >>= fun _ => _) _ _ u
  refine wpAny_bind (wpAny_field gz rfl (x := Value.ref TI) rfl (wpAny_bind (wpAny_seqItems gI rfl ?_)))
  show wpAny _ _ (Builtin.SmallTypes.ownedTupleIsFree (.ref z) >>= fun _ => _) _ _ u
  refine wpAny_bind ?_
  unfold Builtin.SmallTypes.ownedTupleIsFree
  refine wpAny_bind (wpAny_field gz rfl (x := Value.none) rfl (wpAny_pure ?_))
  simp only [if_true]
  refine wpAny_bind (wpAny_rule (wpAny_bind (wpAny_field gz rfl (x := Value.ref TO) rfl (wpAny_bind (wpAny_setField_rec gz (by simp) fun j1 gz1 e1 => ?_)))))
  replace gz1 : IsZip j1 z TI TO .ellipsis := gz1
  replace e1 : Heap.SameBut z u.heap j1 := e1
  refine wpAny_bind ?_
  simp only [List.zipIdx_cons, List.zipIdx_nil, List.forIn_cons, List.forIn_nil]
  refine wpAny_bind (wpAny_bind (wpAny_onRaise ?_))
  show wpAny _ _ (Builtin.SmallTypes.nextOf (.ref i1) >>= fun _ => _) _ _ { u with heap := j1 }
  cases ex : xs[k]? with
  | none =>
    refine wpAny_bind (S1.stop (u := { u with heap := j1 }) hh (S1.ext p1 e1.extBut D.z1) ex fun j2 e e2 ⟨oe, g1, g2⟩ => ?_)
    replace e2 : Heap.ExtBut i1 j1 j2 := e2
    have gz2 : IsZip j2 z TI TO .ellipsis := e2 _ _ z1 gz1
    have nz : e ≠ z := fun n => by subst n; rw [gz2] at g1; cases g1; simp at g2
    exact wpAny_setField_rec (s := { u with heap := j2 }) gz2 (by simp) fun j3 _ e3 => q j3 e (fun c o b1 _ b3 _ h => e3.extBut _ _ b1 (e2 _ _ b3 (e1.extBut _ _ b1 h))) ⟨oe, e3.extBut _ _ nz g1, g2⟩
  | some x =>
    have ey : ys[k]? = none := ed.resolve_left fun n => by rw [ex] at n; cases n
    refine wpAny_bind (S1.item (u := { u with heap := j1 }) (S1.ext p1 e1.extBut D.z1) ex fun j2 r1 e2 => wpAny_pure ?_)
    replace e2 : Heap.SameBut i1 j1 j2 := e2
    have gO2 : IsPair j2 TO a b := e2.extBut _ _ o1 (e1.extBut _ _ D.n2 gO)
    refine wpAny_bind (wpAny_seqItems (s := { u with heap := j2 }) gO2 rfl (wpAny_bind (wpAny_updateSeq_pair (s := { u with heap := j2 }) gO2 fun j3 gO3 e3 => wpAny_bind (wpAny_letGo (wpAny_pure ?_)))))
    replace e3 : Heap.SameBut TO j2 j3 := e3
    refine wpAny_bind (wpAny_bind (wpAny_onRaise ?_))
    show wpAny _ _ (Builtin.SmallTypes.nextOf (.ref i2) >>= fun _ => _) _ _ { u with heap := j3 }
    refine wpAny_bind (S2.stop (u := { u with heap := j3 }) hh (S2.ext (S2.ext (S2.ext p2 e1.extBut D.z2) e2.extBut D.a1) e3.extBut D.o2) ey fun j4 e e4 ⟨oe, g1, g2⟩ => ?_)
    replace e4 : Heap.ExtBut i2 j3 j4 := e4
    have gz4 : IsZip j4 z TI TO .ellipsis := e4 _ _ z2 (e3.extBut _ _ D.n2.symm (e2.extBut _ _ z1 gz1))
    have nz : e ≠ z := fun n => by subst n; rw [gz4] at g1; cases g1; simp at g2
    exact wpAny_setField_rec (s := { u with heap := j4 }) gz4 (by simp) fun j5 _ e5 => q j5 e (fun c o b1 b2 b3 b4 h => e5.extBut _ _ b1 (e4 _ _ b4 (e3.extBut _ _ b2 (e2.extBut _ _ b3 (e1.extBut _ _ b1 h))))) ⟨oe, e5.extBut _ _ nz g1, g2⟩
/-- a later pair, while the last one is still there -/
theorem zs_later {f : Bool} {oT : Obj} {R : Value → Shared → Prop} (S1 : ZSrc prog w i1 f1 xs A1) (S2 : ZSrc prog w i2 f2 ys A2) (D : ZAp z TI TO i1 i2 f1 f2)
    (gz : IsZipHeld u.heap z TI TO T f) (gT : u.heap.get? T = some oT) (gI : IsPair u.heap TI (.ref i1) (.ref i2)) (p1 : A1 k u.heap) (p2 : A2 k u.heap) (ex : xs[k]? = some x) (ey : ys[k]? = some y)
    (q : ∀ h', IsZipHeld h' z TI TO T true → A1 (k + 1) h' → A2 (k + 1) h' → IsPair h' u.heap.objs.size x y →
      (∀ c o, c ≠ z → c ≠ i1 → c ≠ i2 → u.heap.get? c = some o → h'.get? c = some o) → R (.ref u.heap.objs.size) { u with heap := h' }) :
    wpAny (model prog w) A (Builtin.«zip.__next__» ⟨[.ref z], []⟩) (fun r u' => ∃ v, r = .done (.ret v) ∧ R v u') E u := by
  have z1 : z ≠ i1 := S1.ne D.z1
  have z2 : z ≠ i2 := S2.ne D.z2
  show wpAny _ _ (field (.ref z) 2 >>= fun _ => _) _ _ u
  refine wpAny_bind (wpAny_field gz rfl (x := Value.bool false) rfl ?_)
  show wpAny _ _ (field (.ref z) 3 >>= fun _ => _) _ _ u
  refine wpAny_bind (wpAny_field gz rfl (x := Value.ref TI) rfl (wpAny_bind (wpAny_seqItems gI rfl ?_)))
  show wpAny _ _ (Builtin.SmallTypes.ownedTupleIsFree (.ref z) >>= fun _ => _) _ _ u
  refine wpAny_bind (wpAny_tupleHeld_zip gz gT fun j1 gz1 e1 => ?_)
  simp only [Bool.false_eq_true, if_false]
  refine wpAny_bind ?_
  rw [← Array.forIn_toList]
  simp only [List.forIn_cons, List.forIn_nil]
  refine wpAny_bind (wpAny_bind (wpAny_holding ?_))
  show wpAny _ _ (Builtin.SmallTypes.nextOf (.ref i1) >>= fun _ => _) _ _ { u with heap := j1 }
  refine wpAny_bind (S1.item (u := { u with heap := j1 }) (S1.ext p1 e1.extBut D.z1) ex fun j2 r1 e2 => wpAny_pure (wpAny_pure (wpAny_bind (wpAny_bind (wpAny_holding ?_)))))
  replace e2 : Heap.SameBut i1 j1 j2 := e2
  show wpAny _ _ (Builtin.SmallTypes.nextOf (.ref i2) >>= fun _ => _) _ _ { u with heap := j2 }
  refine wpAny_bind (S2.item (u := { u with heap := j2 }) (S2.ext (S2.ext p2 e1.extBut D.z2) e2.extBut D.a1) ey fun j3 r2 e3 => wpAny_pure (wpAny_pure (wpAny_pure ?_)))
  replace e3 : Heap.SameBut i2 j2 j3 := e3
  show wpAny _ _ (newTuple [x, y] >>= fun _ => _) _ _ { u with heap := j3 }
  refine wpAny_bind (wpAny_newTuple (wpAny_pure ⟨_, rfl, ?_⟩))
  have sz : j3.objs.size = u.heap.objs.size := e3.1.trans (e2.1.trans e1.1)
  have up : ∀ c o, c ≠ z → c ≠ i1 → c ≠ i2 → u.heap.get? c = some o → j3.get? c = some o := fun c o b1 b2 b3 e => e3.extBut _ _ b3 (e2.extBut _ _ b2 (e1.extBut _ _ b1 e))
  have gz3 : IsZipHeld j3 z TI TO T true := e3.extBut _ _ z2 (e2.extBut _ _ z1 gz1)
  have s1 : A1 (k + 1) j3 := S1.ext r1 e3.extBut D.a2
  have gp : IsPair (j3.push { cls := .type "tuple", data := .seq #[x, y] }) j3.objs.size x y := Heap.get?_push_size _ rfl
  show R (.ref j3.objs.size) { u with heap := j3.push { cls := .type "tuple", data := .seq #[x, y] } }
  rw [sz] at gp ⊢
  exact q _ (Heap.get?_push_of_some _ gz3) (S1.stay s1 fun c _ o e => Heap.get?_push_of_some _ e) (S2.stay r2 fun c _ o e => Heap.get?_push_of_some _ e) gp fun c o b1 b2 b3 e => Heap.get?_push_of_some _ (up c o b1 b2 b3 e)
/-- no later pair -/
theorem zs_end {f : Bool} {oT : Obj} {R : PySem.Fin → Shared → Prop} (S1 : ZSrc prog w i1 f1 xs A1) (S2 : ZSrc prog w i2 f2 ys A2) (D : ZAp z TI TO i1 i2 f1 f2) (hh : A.handled = none)
    (gz : IsZipHeld u.heap z TI TO T f) (gT : u.heap.get? T = some oT) (gI : IsPair u.heap TI (.ref i1) (.ref i2)) (p1 : A1 k u.heap) (p2 : A2 k u.heap) (ed : xs[k]? = none ∨ ys[k]? = none)
    (q : ∀ h' e, (∀ c o, c ≠ z → c ≠ i1 → c ≠ i2 → u.heap.get? c = some o → h'.get? c = some o) → (∃ o, h'.get? e = some o ∧ o.cls = .type "StopIteration") → E (.ref e) { u with heap := h' }) :
    wpAny (model prog w) A (Builtin.«zip.__next__» ⟨[.ref z], []⟩) R E u := by
  show wpAny _ _ (field (.ref z) 2 >>= fun _ => _) _ _ u
  refine wpAny_bind (wpAny_field gz rfl (x := Value.bool false) rfl ?_)
  show wpAny _ _ (field (.ref z) 3 >>= fun _ => _) _ _ u
  refine wpAny_bind (wpAny_field gz rfl (x := Value.ref TI) rfl (wpAny_bind (wpAny_seqItems gI rfl ?_)))
  show wpAny _ _ (Builtin.SmallTypes.ownedTupleIsFree (.ref z) >>= fun _ => _) _ _ u
  refine wpAny_bind (wpAny_tupleHeld_zip gz gT fun j1 gz1 e1 => ?_)
  simp only [Bool.false_eq_true, if_false]
  refine wpAny_bind ?_
  rw [← Array.forIn_toList]
  simp only [List.forIn_cons, List.forIn_nil]
  refine wpAny_bind (wpAny_bind (wpAny_holding ?_))
  show wpAny _ _ (Builtin.SmallTypes.nextOf (.ref i1) >>= fun _ => _) _ _ { u with heap := j1 }
  cases ex : xs[k]? with
  | none => exact wpAny_bind (S1.stop (u := { u with heap := j1 }) hh (S1.ext p1 e1.extBut D.z1) ex fun j2 e e2 g => q j2 e (fun c o b1 b2 _ h => e2 _ _ b2 (e1.extBut _ _ b1 h)) g)
  | some x =>
    have ey : ys[k]? = none := ed.resolve_left fun n => by rw [ex] at n; cases n
    refine wpAny_bind (S1.item (u := { u with heap := j1 }) (S1.ext p1 e1.extBut D.z1) ex fun j2 r1 e2 => wpAny_pure (wpAny_pure (wpAny_bind (wpAny_bind (wpAny_holding ?_)))))
    replace e2 : Heap.SameBut i1 j1 j2 := e2
    show wpAny _ _ (Builtin.SmallTypes.nextOf (.ref i2) >>= fun _ => _) _ _ { u with heap := j2 }
    exact wpAny_bind (S2.stop (u := { u with heap := j2 }) hh (S2.ext (S2.ext p2 e1.extBut D.z2) e2.extBut D.a1) ey fun j3 e e3 g => q j3 e (fun c o b1 b2 b3 h => e3 _ _ b3 (e2.extBut _ _ b2 (e1.extBut _ _ b1 h))) g)
/-- next(z): a pair -/
theorem zs_nextI {o : Obj} {R : Option Value → Shared → Prop} (g : u.heap.get? z = some o) (c : o.cls = .type "zip")
    (h : ∀ (B : Around) (E' : Value → Shared → Prop) (R' : Value → Shared → Prop), (∀ v u', R (some v) u' → R' v u') → wpAny (model prog w) B (Builtin.«zip.__next__» ⟨[.ref z], []⟩) (fun r u' => ∃ v, r = .done (.ret v) ∧ R' v u') E' u) :
    wpAny (model prog w) A (pyNext (.ref z)) R E u := by
  have ty : u.TypeIs (.ref z) "zip" := ⟨_, g, c⟩
  unfold pyNext
  exact wpAny_bind (wpAny_attempt (wpAny_callSpecial?_slot (name := Str.ofString "__next__") ty F.slot_zip_next (wpAny_call_entry F.slot_zip_next ty F.entry_zip_next (h _ _ _ fun v u' r => wpAny_pure r) (F.args_zip_next_1 _))))
/-- next(z): the end -/
theorem zs_nextE {o : Obj} {R : Option Value → Shared → Prop} (g : u.heap.get? z = some o) (c : o.cls = .type "zip") (hh : A.handled = none)
    (h : ∀ (B : Around) (E' : Value → Shared → Prop) (R' : PySem.Fin → Shared → Prop), B.handled = none → (∀ e h', (∃ o, h'.get? e = some o ∧ o.cls = .type "StopIteration") → R none { u with heap := h' } → E' (.ref e) { u with heap := h' }) → wpAny (model prog w) B (Builtin.«zip.__next__» ⟨[.ref z], []⟩) R' E' u) :
    wpAny (model prog w) A (pyNext (.ref z)) R E u := by
  have ty : u.TypeIs (.ref z) "zip" := ⟨_, g, c⟩
  unfold pyNext
  refine wpAny_bind (wpAny_attempt (wpAny_callSpecial?_slot (name := Str.ofString "__next__") ty F.slot_zip_next (wpAny_call_entry F.slot_zip_next ty F.entry_zip_next (h _ _ _ hh fun e h' ⟨o, g1, g2⟩ r => ?_) (F.args_zip_next_1 _))))
  exact wpAny_bind (wpAny_isInstance (T := "StopIteration") (b := true) ⟨o, g1, g2⟩ isSubtype_stop (wpAny_pure r))
end
/-- zip(..) of any two sources, as what dict() reads -/
theorem pairs_zip (z TI TO i1 i2 : Addr) (S1 : ZSrc prog w i1 f1 xs A1) (S2 : ZSrc prog w i2 f2 ys A2) (D : ZAp z TI TO i1 i2 f1 f2) :
    PairArg prog w "zip" z (z :: TI :: TO :: (f1 ++ f2)) [z, TO, i1, i2] (min xs.size ys.size) (fun j k v => xs[j]? = some k ∧ ys[j]? = some v)
      (fun h => IsZip h z TI TO .none ∧ IsPair h TI (.ref i1) (.ref i2) ∧ (∃ a b, IsPair h TO a b) ∧ A1 0 h ∧ A2 0 h) where
  type := fun s ok => ⟨_, ok.1, rfl⟩
  notDict := by decide
  keep := fun h h' ⟨g1, g2, ⟨a, b, g3⟩, g4, g5⟩ k => ⟨k _ _ g1, k _ _ g2, ⟨a, b, k _ _ g3⟩, S1.stay g4 fun c _ o e => k c o e, S2.stay g5 fun c _ o e => k c o e⟩
  there := fun h ⟨g1, g2, ⟨a, c, g3⟩, g4, g5⟩ b hb => by
    rcases List.mem_cons.mp hb with rfl | hb
    · exact ⟨_, g1⟩
    rcases List.mem_cons.mp hb with rfl | hb
    · exact ⟨_, g2⟩
    rcases List.mem_cons.mp hb with rfl | hb
    · exact ⟨_, g3⟩
    rcases List.mem_append.mp hb with hb | hb
    · exact S1.there g4 b hb
    · exact S2.there g5 b hb
  sub := fun b hb => by
    rcases List.mem_cons.mp hb with rfl | hb
    · exact .head _
    rcases List.mem_cons.mp hb with rfl | hb
    · exact .tail _ (.tail _ (.head _))
    rcases List.mem_cons.mp hb with rfl | hb
    · exact .tail _ (.tail _ (.tail _ (List.mem_append_left _ S1.me)))
    · cases List.mem_singleton.mp hb
      exact .tail _ (.tail _ (.tail _ (List.mem_append_right _ S2.me)))
  noKeys := fun A s Q E hA ok h => getAttrOr_miss_zip ok.1 rfl rfl rfl zip_no_keys (by decide +kernel) hA h
  iter := fun A s d Q E hA ⟨g1, g2, ⟨a, b, g3⟩, g4, g5⟩ hd hdf h => by
    have dz : d ≠ z := fun e => hdf (e ▸ .head _)
    have dI : d ≠ TI := fun e => hdf (e ▸ .tail _ (.head _))
    have dO : d ≠ TO := fun e => hdf (e ▸ .tail _ (.tail _ (.head _)))
    have df1 : d ∉ f1 := fun e => hdf (.tail _ (.tail _ (.tail _ (List.mem_append_left _ e))))
    have df2 : d ∉ f2 := fun e => hdf (.tail _ (.tail _ (.tail _ (List.mem_append_right _ e))))
    have d1 : d ≠ i1 := S1.ne df1
    have d2 : d ≠ i2 := S2.ne df2
    have tz1 : TI ≠ i1 := S1.ne D.t1
    have tz2 : TI ≠ i2 := S2.ne D.t2
    refine wpAny_pyIter_zip g1 (h z [z, TO, i1, i2] (fun k h => IsPair h TI (.ref i1) (.ref i2) ∧ A1 k h ∧ A2 k h ∧
      ((IsZip h z TI TO .none ∧ ∃ a b, IsPair h TO a b) ∨ ∃ T f oT, IsZipHeld h z TI TO T f ∧ h.get? T = some oT ∧ T ≠ z ∧ T ≠ i1 ∧ T ≠ i2 ∧ T ≠ d)) s.heap s.toks ?_
      ⟨g2, g4, g5, .inl ⟨g1, a, b, g3⟩⟩ (fun _ _ e => e) fun b hb => .inl hb)
    have off : d ∉ [z, TO, i1, i2] := fun hm => by
      rcases List.mem_cons.mp hm with e | hm
      · exact dz e
      rcases List.mem_cons.mp hm with e | hm
      · exact dO e
      rcases List.mem_cons.mp hm with e | hm
      · exact d1 e
      · exact d2 (List.mem_singleton.mp hm)
    have out : ∀ {c : Addr}, c ∉ [z, TO, i1, i2] → c ≠ z ∧ c ≠ TO ∧ c ≠ i1 ∧ c ≠ i2 := fun n =>
      ⟨fun e => n (e ▸ .head _), fun e => n (e ▸ .tail _ (.head _)), fun e => n (e ▸ .tail _ (.tail _ (.head _))), fun e => n (e ▸ .tail _ (.tail _ (.tail _ (.head _))))⟩
    exact {
      off := off
      frame := fun k h₁ h₂ ⟨e1, e2, e3, e4⟩ kk => by
        refine ⟨kk _ _ dI.symm e1, S1.stay e2 fun c hc o e => kk c o (fun n => df1 (n ▸ hc)) e, S2.stay e3 fun c hc o e => kk c o (fun n => df2 (n ▸ hc)) e, ?_⟩
        rcases e4 with ⟨g, a, b, g'⟩ | ⟨T, f, oT, g, g', r1, r2, r3, r4⟩
        · exact .inl ⟨kk _ _ dz.symm g, a, b, kk _ _ dO.symm g'⟩
        · exact .inr ⟨T, f, oT, kk _ _ dz.symm g, kk _ _ r4 g', r1, r2, r3, r4⟩
      item := fun k s₁ Q₁ E₁ hk ⟨e1, e2, e3, e4⟩ hds hQ => by
        have ex := Array.getElem?_eq_getElem (Nat.lt_of_lt_of_le hk (Nat.min_le_left ..))
        have ey := Array.getElem?_eq_getElem (Nat.lt_of_lt_of_le hk (Nat.min_le_right ..))
        have lt : ∀ {c o}, s₁.heap.get? c = some o → s₁.heap.objs.size ≠ c := fun e => Nat.ne_of_gt (Heap.lt_size e)
        have n1 : s₁.heap.objs.size ≠ i1 := let ⟨_, e⟩ := S1.there e2 _ S1.me; lt e
        have n2 : s₁.heap.objs.size ≠ i2 := let ⟨_, e⟩ := S2.there e3 _ S2.me; lt e
        have nd : s₁.heap.objs.size ≠ d := Nat.ne_of_gt hds
        rcases e4 with ⟨g, a, b, g'⟩ | ⟨T, f, oT, g, g', r1, r2, r3, r4⟩
        · refine zs_nextI g rfl fun B E' R' cv => zs_first S1 S2 D g e1 g' e2 e3 ex ey fun h' q1 q2 q3 q4 q5 q6 => cv _ _ ?_
          exact hQ s₁.heap.objs.size _ _ h' s₁.toks ⟨ex, ey⟩ (.inl ⟨_, q5, rfl, _, rfl⟩) ⟨q6 _ _ D.n1 D.n3 tz1 tz2 e1, q3, q4, .inr ⟨s₁.heap.objs.size, false, _, q1, q5, lt g, n1, n2, nd⟩⟩
            fun c o hc e => q6 c o (out hc).1 (out hc).2.1 (out hc).2.2.1 (out hc).2.2.2 e
        · refine zs_nextI g rfl fun B E' R' cv => zs_later S1 S2 D g g' e1 e2 e3 ex ey fun h' q1 q3 q4 q5 q6 => cv _ _ ?_
          exact hQ s₁.heap.objs.size _ _ h' s₁.toks ⟨ex, ey⟩ (.inl ⟨_, q5, rfl, _, rfl⟩) ⟨q6 _ _ D.n1 tz1 tz2 e1, q3, q4, .inr ⟨T, true, oT, q1, q6 _ _ r1 r2 r3 g', r1, r2, r3, r4⟩⟩
            fun c o hc e => q6 c o (out hc).1 (out hc).2.2.1 (out hc).2.2.2 e
      done := fun s₁ Q₁ E₁ ⟨e1, e2, e3, e4⟩ hQ => by
        have ed : xs[min xs.size ys.size]? = none ∨ ys[min xs.size ys.size]? = none := by
          rcases Nat.le_total xs.size ys.size with l | l
          · exact .inl (Array.getElem?_eq_none (Nat.le_of_eq (Nat.min_eq_left l).symm))
          · exact .inr (Array.getElem?_eq_none (Nat.le_of_eq (Nat.min_eq_right l).symm))
        rcases e4 with ⟨g, a, b, g'⟩ | ⟨T, f, oT, g, g', r1, r2, r3, r4⟩
        · exact zs_nextE g rfl hA fun B E' R' hB cv => zs_none S1 S2 D hB g e1 g' e2 e3 ed fun h' e q6 qe => cv e h' qe (hQ h' s₁.toks fun c o hc e => q6 c o (out hc).1 (out hc).2.1 (out hc).2.2.1 (out hc).2.2.2 e)
        · exact zs_nextE g rfl hA fun B E' R' hB cv => zs_end S1 S2 D hB g g' e1 e2 e3 ed fun h' e q6 qe => cv e h' qe (hQ h' s₁.toks fun c o hc e => q6 c o (out hc).1 (out hc).2.2.1 (out hc).2.2.2 e) }
end
abbrev zmA (h : Heap) (l1 : Addr) : Heap := h.push { cls := .type "list_iterator", data := .fields #[.ref l1, .int 0 0] }
abbrev zmB (h : Heap) (l1 l2 : Addr) : Heap := (zmA h l1).push { cls := .type "tuple_iterator", data := .fields #[.ref l2, .int 0 0] }
abbrev zmC (h : Heap) (l1 l2 : Addr) : Heap := (zmB h l1 l2).push { cls := .type "tuple", data := .seq #[.ref h.objs.size, .ref (zmA h l1).objs.size] }
abbrev zmD (h : Heap) (l1 l2 : Addr) : Heap := (zmC h l1 l2).push { cls := .type "tuple", data := .seq #[.none, .none] }
abbrev zmE (h : Heap) (l1 l2 : Addr) : Heap := (zmD h l1 l2).push { cls := .type "zip", data := .fields #[.none, .bool false, .bool false, .ref (zmB h l1 l2).objs.size, .ref (zmC h l1 l2).objs.size] }
theorem meets_zipM (l1 l2 : Addr) (xs ys : Array Value) :
    Meets (Builtin.«zip.__new__» ⟨[.type "zip", .ref l1, .ref l2], []⟩) (fun _ R u => u.heap.IsList l1 xs ∧ u.heap.IsTuple l2 ys ∧ R (.ok (.ret (.ref (zmD u.heap l1 l2).objs.size))) { u with heap := zmE u.heap l1 l2 }) :=
  .of_wp fun prog w A R u h => by
    obtain ⟨hp, g, d, tk, os⟩ := u
    obtain ⟨hl, ht, h⟩ := h
    have hsub := sub_zip
    have w1 : Heap.IsList (Shared.heap ⟨hp, g, d, tk, os⟩) l1 xs := hl
    have w2 : Heap.IsTuple (Shared.heap ⟨hp.push { cls := .type "list_iterator", data := .fields #[.ref l1, .int 0 0] }, g, d, tk, os⟩) l2 ys := Heap.IsTuple.at ht fun o e => Heap.get?_push_of_some _ e
    wp_walk using wpAny_pyIter_list w1, wpAny_pyIter_tuple w2
    exact ⟨_, rfl, h⟩
theorem zap_new {n l1 l2 : Nat} (h1 : l1 < n) (h2 : l2 < n) : ZAp (n + 4) (n + 2) (n + 3) n (n + 1) [n, l1] [n + 1, l2] ∧ l1 ≠ n ∧ l2 ≠ n + 1 := by
  have no : ∀ {c i l : Nat}, c ≠ i → c ≠ l → c ∉ [i, l] := fun h1 h2 h => by
    rcases List.mem_cons.mp h with e | h
    · exact h1 e
    · exact h2 (List.mem_singleton.mp h)
  have f' : ∀ {a b : Nat}, a < b → a ≠ b := fun h => Nat.ne_of_lt h
  have f : ∀ {a b : Nat}, a < b → b ≠ a := fun h => Nat.ne_of_gt h
  exact ⟨⟨f' (by omega), f' (by omega), f' (by omega), no (f (by omega)) (f (by omega)), no (f (by omega)) (f (by omega)), no (f (by omega)) (f (by omega)), no (f (by omega)) (f (by omega)),
    no (f (by omega)) (f (by omega)), no (f (by omega)) (f (by omega)), no (f' (by omega)) (f (by omega)), no (f (by omega)) (f (by omega))⟩, f' h1, f' (by omega)⟩
/-- zip(a list, a tuple) -/
theorem call_zipM {prog : Program} {w : World} {A : Around} {E : Value → Shared → Prop} {u : Shared} {l1 l2 : Addr} {xs ys : Array Value} {R : Value → Shared → Prop} (hl : u.heap.IsList l1 xs) (ht : u.heap.IsTuple l2 ys)
    (q : ∀ h' z TI TO i1 i2, ZAp z TI TO i1 i2 [i1, l1] [i2, l2] → l1 ≠ i1 → l2 ≠ i2 → u.heap.objs.size ≤ z → u.heap.objs.size ≤ TO → u.heap.objs.size ≤ i1 → u.heap.objs.size ≤ i2 →
      (IsZip h' z TI TO .none ∧ IsPair h' TI (.ref i1) (.ref i2) ∧ (∃ a b, IsPair h' TO a b) ∧ (h'.IsListIter i1 l1 0 ∧ h'.IsList l1 xs) ∧ (h'.IsTupleIter i2 l2 0 ∧ h'.IsTuple l2 ys)) →
      (∀ c o, u.heap.get? c = some o → h'.get? c = some o) → R (.ref z) { u with heap := h' }) :
    wpAny (model prog w) A (call (.type "zip") [.ref l1, .ref l2]) R E u := by
  have a1 : l1 < u.heap.objs.size := let ⟨_, e, _⟩ := hl; Heap.lt_size e
  have a2 : l2 < u.heap.objs.size := let ⟨_, e, _⟩ := ht; Heap.lt_size e
  refine callType_new F.called_zip (by decide) (F.typeCall_zip_2 _ _) (F.newCall_zip_2 _ _) (fun obj => F.args_object_init_3 obj _ _) F.entry_zip_new (meets_zipM l1 l2 xs ys) ⟨hl, ht, ?_⟩
  have s1 : (zmA u.heap l1).objs.size = u.heap.objs.size + 1 := Heap.size_push ..
  have s2 : (zmB u.heap l1 l2).objs.size = u.heap.objs.size + 2 := by rw [Heap.size_push, s1]
  have s3 : (zmC u.heap l1 l2).objs.size = u.heap.objs.size + 3 := by rw [Heap.size_push, s2]
  have s4 : (zmD u.heap l1 l2).objs.size = u.heap.objs.size + 4 := by rw [Heap.size_push, s3]
  have k1 : ∀ c o, u.heap.get? c = some o → (zmA u.heap l1).get? c = some o := fun c o e => Heap.get?_push_of_some _ e
  have k2 : ∀ c o, (zmA u.heap l1).get? c = some o → (zmB u.heap l1 l2).get? c = some o := fun c o e => Heap.get?_push_of_some _ e
  have k3 : ∀ c o, (zmB u.heap l1 l2).get? c = some o → (zmC u.heap l1 l2).get? c = some o := fun c o e => Heap.get?_push_of_some _ e
  have k4 : ∀ c o, (zmC u.heap l1 l2).get? c = some o → (zmD u.heap l1 l2).get? c = some o := fun c o e => Heap.get?_push_of_some _ e
  have k5 : ∀ c o, (zmD u.heap l1 l2).get? c = some o → (zmE u.heap l1 l2).get? c = some o := fun c o e => Heap.get?_push_of_some _ e
  have gz : (zmE u.heap l1 l2).get? (zmD u.heap l1 l2).objs.size = some _ := Heap.get?_push_size _ rfl
  have gO : (zmE u.heap l1 l2).get? (zmC u.heap l1 l2).objs.size = some _ := k5 _ _ (Heap.get?_push_size _ rfl)
  have gI : (zmE u.heap l1 l2).get? (zmB u.heap l1 l2).objs.size = some _ := k5 _ _ (k4 _ _ (Heap.get?_push_size _ rfl))
  have g2 : (zmE u.heap l1 l2).get? (zmA u.heap l1).objs.size = some _ := k5 _ _ (k4 _ _ (k3 _ _ (Heap.get?_push_size _ rfl)))
  have g1 : (zmE u.heap l1 l2).get? u.heap.objs.size = some _ := k5 _ _ (k4 _ _ (k3 _ _ (k2 _ _ (Heap.get?_push_size _ rfl))))
  show _ ∧ _
  rw [s2, s3, s4] at gz
  rw [s1, s2] at gI
  rw [s3] at gO
  rw [s1] at g2
  rw [s4]
  have keep : ∀ c o, u.heap.get? c = some o → (zmE u.heap l1 l2).get? c = some o := fun c o e => k5 _ _ (k4 _ _ (k3 _ _ (k2 _ _ (k1 _ _ e))))
  obtain ⟨D, d1, d2⟩ := zap_new a1 a2
  exact ⟨⟨_, gz, rfl⟩, q _ _ _ _ _ _ D d1 d2 (Nat.le_add_right _ 4) (Nat.le_add_right _ 3) (Nat.le_refl _) (Nat.le_add_right _ 1)
    ⟨gz, gI, ⟨_, _, gO⟩, ⟨⟨_, g1, rfl, rfl⟩, hl.at fun o e => keep _ o e⟩, ⟨_, g2, rfl, rfl⟩, ht.at fun o e => keep _ o e⟩ keep⟩
end DL

/-! ### dict(zip(a list, a tuple)), in the model of data -/
namespace DL
open PySem PySem.Spec PyProof.Rows L2
section
variable {X : Cx} {W : WX} {g : G}
theorem zipKV : ∀ {ks : List Key} {us : List Value} {vs : List V} {ws : List Value}, Vals (ks.map kV) us → Vals vs ws → us.length = ws.length →
    ∃ prs : List (Key × Value), KV (ks.zip vs) prs ∧ prs.length = us.length ∧ ∀ (j : Nat) (k v : Value), us[j]? = some k → ws[j]? = some v → ∃ key, prs[j]? = some (key, v) ∧ ∀ (P : Program) (w : World), (mixKind P w).is key k = true
  | [], us, vs, ws, r, r2, hl => by
    cases r
    cases ws with
    | nil => exact ⟨[], .nil, rfl, fun j k v h => by simp at h⟩
    | cons _ _ => cases hl
  | key :: ks, us, vs, ws, r, r2, hl => by
    rw [List.map_cons] at r
    cases r with
    | @cons _ u _ us h t =>
      cases r2 with
      | nil => cases hl
      | @cons v w vs ws h2 t2 =>
        obtain ⟨prs, p1, p2, p3⟩ := zipKV t t2 (Nat.succ.inj hl)
        refine ⟨(key, w) :: prs, .cons ⟨rfl, h2⟩ p1, by rw [List.length_cons, List.length_cons, p2], fun j k x e1 e2 => ?_⟩
        cases j with
        | zero =>
          cases (Option.some.inj e1)
          cases (Option.some.inj e2)
          exact ⟨key, rfl, fun P w => kV_is h⟩
        | succ j => exact p3 j k x (by simpa using e1) (by simpa using e2)
def tDZip (K : PySem.W.Frag) (ta : TA) : TE := fun σ H Q => ta σ H fun vs H1 => ∃ (a b : Addr) (ks : List Key) (ys : List V), vs = [.ref a, .ref b] ∧ SqL K H1 a (ks.map kV) ∧ SqT K H1 b ys ∧ ks.length = ys.length ∧ ∀ p, H1 p = none → Q (.ref p) (upd H1 p (.dK (mergeK [] (ks.zip ys))))
/-- dict(zip(a list of keys, a tuple of as many)) -/
theorem pe_dzip {e e2 : Expr} {ta : TA} {p p2 pos pos2 : Pos} (hg : Gl X "dict") (hm : X.mg "dict" = none) (hg2 : Gl X "zip") (hm2 : X.mg "zip" = none) (hc : X.calm = true) (ha : PA X [e, e2] ta)
    (hs : starEach [e, e2] X.env = (false, eval e X.env) :: starEach [e2] X.env := by rfl) (hpl : (backTo pos2 (starEach [e2] X.env)).any (·.1) = false := by rfl)
    (ht : starEach [.Call (.Name "zip" p2) [e, e2] [] pos2] X.env = (false, eval (.Call (.Name "zip" p2) [e, e2] [] pos2) X.env) :: starEach [] X.env := by rfl) :
    PE X (.Call (.Name "dict" p) [.Call (.Name "zip" p2) [e, e2] [] pos2] [] pos) (tDZip X.K ta) := by
  refine ⟨fun pins s σ H Q I h => ?_⟩
  refine wpAny_Call_Name_kw (ld_blt (u := .type "dict") I hg hm (by decide +kernel) (PyProof.Rows.callWith_type1 (E := X.xe) ?_ ht (by rfl)) (by decide) (by decide))
  rw [ht]
  show wpAny _ _ (spliced ((false, eval (.Call (.Name "zip" p2) [e, e2] [] pos2) X.env) :: backTo pos (starEach [] X.env))) _ _ s
  refine Calls.spliced_cons ?_
  refine Call_ (ld_blt I hg2 hm2 PyProof.Rows.boot_zip (PyProof.Rows.callWith_type1 (thn (ha.run pos2 pins s σ H _ I h) fun us s1 ⟨vs, H1, I1, r1, q1⟩ => ?_) hs hpl))
  obtain ⟨a, b, ks, ys, rfl, hl, htu, hn, q1⟩ := q1
  obtain ⟨u1, u2, rfl, ra, rb⟩ := vals2 r1
  cases ra
  cases rb
  obtain ⟨its, rv, pl, hz⟩ := I1.list hl
  obtain ⟨its2, rv2, pt, _⟩ := I1.tuple htu
  have e1 : its.length = ks.length := by have := rv.length; rw [List.length_map] at this; omega
  have e2 : its2.length = ys.length := by have := rv2.length; omega
  have em : min its.toArray.size its2.toArray.size = ks.length := by simp; omega
  obtain ⟨prs, kv, kl, kj⟩ := zipKV rv rv2 (by omega)
  refine call_zipM pl.isList (show s1.heap.IsTuple b its2.toArray from pt) fun h' z TI TO i1 i2 D n1 n2 b1 b2 b3 b4 ok keep => Calls.spliced_nil ?_
  have I2 : Inv X pins σ H1 { s1 with heap := h' } := I1.kept (t' := s1.toks) keep
  have PZ := pairs_zip (prog := X.prog) (w := X.w) z TI TO i1 i2 (zsrc_list (xs := its.toArray) n1) (zsrc_tup (xs := its2.toArray) n2) D
  have hz' : ks.length ≤ sizeLine := by rw [List.length_map] at hz; exact hz
  refine PySem.call_dict_pairs (knd := mixKind X.prog X.w) (kvs := prs) PZ (I2.ok.hd hc) ok ⟨by rw [em, kl, e1], fun j k v hj => ?_⟩ (by rw [em]; exact hz') fun h2 tk hd' kk => ?_
  · obtain ⟨key, g1, g2⟩ := kj j k v (by simpa using hj.1) (by simpa using hj.2)
    exact ⟨key, g1, g2 _ _⟩
  · have big : (h'.objs.size == sysModules) = false := beq_eq_false_iff_ne.mpr (Nat.ne_of_gt I2.big)
    have hm3 : (mergeK [] (ks.zip ys)).length ≤ sizeLine := by
      refine Nat.le_trans (length_mergeK _ []) ?_
      rw [List.length_nil, Nat.zero_add, List.length_zip]
      omega
    have old : ∀ b o, s1.heap.get? b = some o → h2.get? b = some o := fun b o e => by
      have lt := Heap.lt_size e
      refine kk b o (fun hm => ?_) (keep b o e)
      rcases List.mem_cons.mp hm with rfl | hm
      · exact absurd lt (Nat.not_lt.mpr b1)
      rcases List.mem_cons.mp hm with rfl | hm
      · exact absurd lt (Nat.not_lt.mpr b2)
      rcases List.mem_cons.mp hm with rfl | hm
      · exact absurd lt (Nat.not_lt.mpr b3)
      · cases List.mem_singleton.mp hm
        exact absurd lt (Nat.not_lt.mpr b4)
    have up : s1.heap.objs.size ≤ h'.objs.size := Nat.le_of_lt (Nat.lt_of_le_of_lt b1 (Heap.lt_size ok.1))
    exact ⟨.ref h'.objs.size, upd H1 h'.objs.size (.dK (mergeK [] (ks.zip ys))), I1.laid (t' := tk) old up (dk_new hm3 big (KV.merge kv .nil) hd'), rfl, q1 _ (I1.hok.fresh up)⟩
def keysOf : List D → Option (List Key)
  | [] => some []
  | d :: r => (keyD d).bind fun k => (keysOf r).map fun ks => k :: ks
theorem keysOf_rel {F : Hp} : ∀ {ds : List D} {vs : List V} {ks : List Key}, RelDs g F ds vs → keysOf ds = some ks → vs = ks.map kV ∧ ks.length = ds.length
  | [], vs, ks, r, h => by
    cases (Option.some.inj h)
    exact ⟨r.nil_inv, rfl⟩
  | d :: ds, vs, ks, r, h => by
    obtain ⟨k, h1, h⟩ := Option.bind_eq_some_iff.mp (show ((keyD d).bind fun k => (keysOf ds).map fun ks => k :: ks) = some ks from h)
    obtain ⟨ks', h2, rfl⟩ := Option.map_eq_some_iff.mp h
    obtain ⟨u, us, rfl, r1, r2⟩ := r.cons_inv
    obtain ⟨rfl, e⟩ := keysOf_rel r2 h2
    rw [keyD_rel h1 r1]
    exact ⟨rfl, by rw [List.length_cons, List.length_cons, e]⟩
def dzpO : List D → S → Option (List (Key × D))
  | [x, y], st => (lstOf st x).bind fun xs => (keysOf xs).bind fun ks => (tupOf y).bind fun ys => if ks.length = ys.length then some (mergeKD [] (ks.zip ys)) else none
  | _, _ => none
def dzpM (a : Env → M Ex (List D)) : Env → M Ex D := fun ρ => bindM (a ρ) fun ds => bindM (seeM (dzpO ds)) fun kvs => newM (.dic kvs)
instance {a : Env → M Ex (List D)} [MB a] : MB (dzpM a) := ⟨fun ρ => mono_bind (MB.mono ρ) fun _ => mono_bind (mono_see _) fun _ => mono_new⟩
theorem zip_rel {F : Hp} : ∀ {ks : List Key} {ds : List D} {vs : List V}, RelDs g F ds vs → ks.length = ds.length → (ks.zip vs).map (·.1) = (ks.zip ds).map (·.1) ∧ RelDs g F ((ks.zip ds).map (·.2)) ((ks.zip vs).map (·.2)) := fun {ks ds vs} r h => by
  have h2 : ks.length = vs.length := by rw [r.len]; exact h
  rw [List.map_fst_zip (Nat.le_of_eq h), List.map_fst_zip (Nat.le_of_eq h2), List.map_snd_zip (Nat.le_of_eq h.symm), List.map_snd_zip (Nat.le_of_eq h2.symm)]
  exact ⟨rfl, r⟩
theorem fe_dzpM {e e2 : Expr} {p p2 pos pos2 : Pos} {a : Env → M Ex (List D)} (hK : X.K = g.K) (hg : Gl X "dict") (hm : X.mg "dict" = none) (hg2 : Gl X "zip") (hm2 : X.mg "zip" = none) (ha : FA g X W [e, e2] a) (hc : X.calm = true := by rfl)
    (hs : starEach [e, e2] X.env = (false, eval e X.env) :: starEach [e2] X.env := by rfl) (hpl : (backTo pos2 (starEach [e2] X.env)).any (·.1) = false := by rfl)
    (ht : starEach [.Call (.Name "zip" p2) [e, e2] [] pos2] X.env = (false, eval (.Call (.Name "zip" p2) [e, e2] [] pos2) X.env) :: starEach [] X.env := by rfl) :
    FE g X W (.Call (.Name "dict" p) [.Call (.Name "zip" p2) [e, e2] [] pos2] [] pos) (dzpM a) := by
  refine ⟨PE.imp (pe_dzip hg hm hg2 hm2 hc ha.pa hs hpl ht) fun σ H Q q => ?_, fun ρ => mono_bind (ha.mono ρ) fun _ => mono_bind (mono_see _) fun _ => mono_new⟩
  obtain ⟨Z, F, st, ρ, E, N, q⟩ := q
  refine tX.go (R1 := RelDs g) N (ha.mono ρ) (fun _ => mono_bind (mono_see _) fun _ => mono_new) q fun ds vs F st H1 e N r q => ?_
  obtain ⟨kvs, ed, q⟩ := q
  have two : ∃ x y, ds = [x, y] := by
    unfold dzpO at ed
    split at ed
    · exact ⟨_, _, rfl⟩
    · cases ed
  obtain ⟨x, y, rfl⟩ := two
  obtain ⟨xs, h1, ed⟩ := Option.bind_eq_some_iff.mp (show ((lstOf st x).bind fun xs => (keysOf xs).bind fun ks => (tupOf y).bind fun ys => if ks.length = ys.length then some (mergeKD [] (ks.zip ys)) else none) = some kvs from ed)
  obtain ⟨ks, h2, ed⟩ := Option.bind_eq_some_iff.mp ed
  obtain ⟨ys, h3, ed⟩ := Option.bind_eq_some_iff.mp ed
  split at ed
  · rename_i hl
    cases (Option.some.inj ed)
    obtain ⟨v1, r1, rfl, ra, rr⟩ := r.cons_inv
    obtain ⟨v2, r2, rfl, rb, rr⟩ := rr.cons_inv
    rw [rr.nil_inv]
    obtain ⟨a1, us, rfl, hs1, hr⟩ := lst_of N.sim ra h1
    obtain ⟨rfl, _⟩ := keysOf_rel hr h2
    cases y with
    | tup zs =>
      cases (Option.some.inj h3)
      unfold RelD at rb
      obtain ⟨a2, ws, rfl, hs2, hr2⟩ := rb
      obtain ⟨z1, z2⟩ := zip_rel hr2 hl
      obtain ⟨m1, m2⟩ := mergeKD_rel (g := g) (F := F) (more := ks.zip ys) (mv := ks.zip ws) (kds := []) (kvs := []) z1 z2 rfl .nil
      refine ⟨a1, a2, ks, ws, rfl, by rw [hK]; exact .inl (.inl hs1), by rw [hK]; exact sqT_mono N.sim.same hs2, by rw [hr2.len]; exact hl, fun p np => ?_⟩
      obtain ⟨nF, nS⟩ := N.sim.free np
      exact q p nS _ F _ (Same.refl _) (N.sim.put nF (.inl np) ⟨_, upd_same, m1, m2⟩) relD_ref
    | _ => cases h3
  · cases ed
theorem x_dzpM {a : Env → M Ex (List D)} {ρ : Env} {s : S} {Q : D → S → Prop} {E : Ex → S → Prop} : dzpM a ρ s Q E = a ρ s (fun ds s1 => ∃ kvs, dzpO ds s1 = some kvs ∧ ∀ a, s1.map a = none → Q (.ref a) (s1.set a (.dic kvs))) E := rfl
end
end DL

namespace DL
def runs_D45 := @x_dzpM
end DL
namespace DL
open PySem L2
abbrev ownC : List Str := ["Maker"]
def t_CHOICES : List (Str × D) := [("place", (.tup [(.str "here"), (.str "each"), (.str "near"), (.str "nowhere")])), ("key", (.tup [(.str "none"), (.str "class"), (.str "arguments"), (.str "both")])), ("store", (.tup [(.str "ahead"), (.str "behind"), (.str "late")])), ("stopped", (.tup [(.str "leave"), (.str "drop")])), ("fits", (.tup [(.str "any"), (.str "kin"), (.str "same")])), ("misfit", (.tup [(.str "anew"), (.str "refuse")])), ("compare", (.tup [(.str "never"), (.str "public"), (.str "asked")])), ("unlike", (.tup [(.str "anew"), (.str "refuse")])), ("unready", (.tup [(.str "give"), (.str "refuse"), (.str "anew")])), ("again", (.tup [(.str "yes"), (.str "no")]))]
def cc_Maker_RULES : D := (.tup [(.str "place"), (.str "key"), (.str "store"), (.str "stopped"), (.str "fits"), (.str "misfit"), (.str "compare"), (.str "unlike"), (.str "unready"), (.str "again")])
def exT : List ((Str × Str) × Bool) := ([(("BadChoice", "BadChoice"), true), (("BadChoice", "NoRule"), false), (("NoRule", "BadChoice"), false), (("NoRule", "NoRule"), true)] : List ((Str × Str) × Bool))
abbrev exS : Str → Str → Option Bool := subT2 exT
theorem exS_BadChoice_BadChoice : subT2 exT "BadChoice" "BadChoice" = some true := by decide +kernel
theorem exS_BadChoice_NoRule : subT2 exT "BadChoice" "NoRule" = some false := by decide +kernel
theorem exS_NoRule_BadChoice : subT2 exT "NoRule" "BadChoice" = some false := by decide +kernel
theorem exS_NoRule_NoRule : subT2 exT "NoRule" "NoRule" = some true := by decide +kernel
abbrev d_bag : List D → M Ex D := bagF
abbrev f_bag_1 : Fn := posF 1 [] d_bag
def b_table : Env → MS := (retS (lstE (argsC (tupE (argsC (cst (.str "place")) (argsC (tupE (argsC (cst (.str "here")) (argsC (cst (.str "each")) (argsC (cst (.str "near")) (argsC (cst (.str "nowhere")) argsN))))) argsN))) (argsC (tupE (argsC (cst (.str "key")) (argsC (tupE (argsC (cst (.str "none")) (argsC (cst (.str "class")) (argsC (cst (.str "arguments")) (argsC (cst (.str "both")) argsN))))) argsN))) (argsC (tupE (argsC (cst (.str "store")) (argsC (tupE (argsC (cst (.str "ahead")) (argsC (cst (.str "behind")) (argsC (cst (.str "late")) argsN)))) argsN))) (argsC (tupE (argsC (cst (.str "stopped")) (argsC (tupE (argsC (cst (.str "leave")) (argsC (cst (.str "drop")) argsN))) argsN))) (argsC (tupE (argsC (cst (.str "fits")) (argsC (tupE (argsC (cst (.str "any")) (argsC (cst (.str "kin")) (argsC (cst (.str "same")) argsN)))) argsN))) (argsC (tupE (argsC (cst (.str "misfit")) (argsC (tupE (argsC (cst (.str "anew")) (argsC (cst (.str "refuse")) argsN))) argsN))) (argsC (tupE (argsC (cst (.str "compare")) (argsC (tupE (argsC (cst (.str "never")) (argsC (cst (.str "public")) (argsC (cst (.str "asked")) argsN)))) argsN))) (argsC (tupE (argsC (cst (.str "unlike")) (argsC (tupE (argsC (cst (.str "anew")) (argsC (cst (.str "refuse")) argsN))) argsN))) (argsC (tupE (argsC (cst (.str "unready")) (argsC (tupE (argsC (cst (.str "give")) (argsC (cst (.str "refuse")) (argsC (cst (.str "anew")) argsN)))) argsN))) (argsC (tupE (argsC (cst (.str "again")) (argsC (tupE (argsC (cst (.str "yes")) (argsC (cst (.str "no")) argsN))) argsN))) argsN))))))))))))
instance : MB b_table := by unfold b_table; infer_instance
def d_table : List D → M Ex D := defM 0 b_table
instance : MD d_table := by unfold d_table; infer_instance
abbrev f_table_0 : Fn := posF 0 [] d_table
abbrev d_draw : List D → M Ex D := drawF
abbrev f_draw_2 : Fn := posF 2 [] d_draw
def b_rules : Env → MS := (seqS (setS 1 dicN) (seqS (forS (iterL (callE f_table_0 argsN argsN)) (toName 2) (keyS (var 1) (op2 ixD (var 2) (cst (.int 0))) (op2 ixD (op2 ixD (var 2) (cst (.int 1))) (callE f_draw_2 (argsC (var 0) (argsC (prim lenD (argsC (op2 ixD (var 2) (cst (.int 1))) argsN)) argsN)) argsN)))) (retS (var 1))))
instance : MB b_rules := by unfold b_rules; infer_instance
def d_rules : List D → M Ex D := defM 3 b_rules
instance : MD d_rules := by unfold d_rules; infer_instance
abbrev f_rules_1 : Fn := posF 1 [] d_rules
def b_is_choice : Env → MS := (retS (andE (prim (isiD ownC) (argsC (var 1) (argsC (cst (.ty "str")) argsN))) (op2 inD (var 1) (op2 (tabD "CHOICES" t_CHOICES) (cst (.cst "CHOICES")) (var 0)))))
instance : MB b_is_choice := by unfold b_is_choice; infer_instance
def d_is_choice : List D → M Ex D := defM 2 b_is_choice
instance : MD d_is_choice := by unfold d_is_choice; infer_instance
abbrev f_is_choice_2 : Fn := posF 2 [] d_is_choice
def b_Maker_init : Env → MS := (seqS (setS 11 (tupE (argsC (var 1) (argsC (var 2) (argsC (var 3) (argsC (var 4) (argsC (var 5) (argsC (var 6) (argsC (var 7) (argsC (var 8) (argsC (var 9) (argsC (var 10) argsN)))))))))))) (seqS (forS (iterZ (argsC (cst cc_Maker_RULES) (argsC (var 11) argsN))) (toTup 2 (toCons (toName 12) (toCons (toName 13) toNil))) (ifS (notT (liftT (callE f_is_choice_2 (argsC (var 12) (argsC (var 13) argsN)) argsN))) (raiseS "BadChoice" ["rule", "given"] (argsC (var 12) (argsC (var 13) argsN))) nilS)) (seqS (fldS "Maker" "place" (var 0) (var 1)) (seqS (fldS "Maker" "key" (var 0) (var 2)) (seqS (fldS "Maker" "store" (var 0) (var 3)) (seqS (fldS "Maker" "stopped" (var 0) (var 4)) (seqS (fldS "Maker" "fits" (var 0) (var 5)) (seqS (fldS "Maker" "misfit" (var 0) (var 6)) (seqS (fldS "Maker" "compare" (var 0) (var 7)) (seqS (fldS "Maker" "unlike" (var 0) (var 8)) (seqS (fldS "Maker" "unready" (var 0) (var 9)) (fldS "Maker" "again" (var 0) (var 10)))))))))))))
instance : MB b_Maker_init := by unfold b_Maker_init; infer_instance
def d_Maker_init : List D → M Ex D := defM 14 b_Maker_init
instance : MD d_Maker_init := by unfold d_Maker_init; infer_instance
def g_Maker_init_1_place_key_store_stopped_fits_misfit_compare_unlike_unready_again {α : Type} : List α → List α → List α → List α → List α
  | [v0], [], [], [z0, z1, z2, z3, z4, z5, z6, z7, z8, z9] => [v0, z0, z1, z2, z3, z4, z5, z6, z7, z8, z9]
  | _, _, _, _ => []
abbrev f_Maker_init_1_place_key_store_stopped_fits_misfit_compare_unlike_unready_again : Fn := kwF 1 10 (fun vs zs => g_Maker_init_1_place_key_store_stopped_fits_misfit_compare_unlike_unready_again vs [] [] zs) d_Maker_init
def b_maker : Env → MS := (seqS (setS 1 (lcE (iterL (callE f_table_0 argsN argsN)) [2] (toName 2) yesT (op2 dgetD (var 0) (op2 ixD (var 2) (cst (.int 0)))) outF)) (retS (callE (mkM "Maker" f_Maker_init_1_place_key_store_stopped_fits_misfit_compare_unlike_unready_again freeze) argsN (argsC (op2 ixD (var 1) (cst (.int 0))) (argsC (op2 ixD (var 1) (cst (.int 1))) (argsC (op2 ixD (var 1) (cst (.int 2))) (argsC (op2 ixD (var 1) (cst (.int 3))) (argsC (op2 ixD (var 1) (cst (.int 4))) (argsC (op2 ixD (var 1) (cst (.int 5))) (argsC (op2 ixD (var 1) (cst (.int 6))) (argsC (op2 ixD (var 1) (cst (.int 7))) (argsC (op2 ixD (var 1) (cst (.int 8))) (argsC (op2 ixD (var 1) (cst (.int 9))) argsN)))))))))))))
instance : MB b_maker := by unfold b_maker; infer_instance
def d_maker : List D → M Ex D := defM 3 b_maker
instance : MD d_maker := by unfold d_maker; infer_instance
abbrev f_maker_1 : Fn := posF 1 [] d_maker
def b_word : Env → MS := (seqS (setS 1 (cst (.str "abcdefghijklmnopqrstuvwxyz"))) (seqS (setS 2 (op2 addD (cst (.int 1)) (callE f_draw_2 (argsC (var 0) (argsC (cst (.int 8)) argsN)) argsN))) (seqS (setS 3 (lcE (iterR range1 (argsC (var 2) argsN)) [4] (toName 4) yesT (op2 ixD (var 1) (callE f_draw_2 (argsC (var 0) (argsC (cst (.int 26)) argsN)) argsN)) outF)) (retS (m1 joinD (cst (.str "")) (var 3))))))
instance : MB b_word := by unfold b_word; infer_instance
def d_word : List D → M Ex D := defM 5 b_word
instance : MD d_word := by unfold d_word; infer_instance
abbrev f_word_1 : Fn := posF 1 [] d_word
def b_spoilt : Env → MS := (seqS (setS 1 (cst (.str " ABZ019_-(){}~."))) (seqS (setS 2 (callE f_word_1 (argsC (var 0) argsN) argsN)) (seqS (setS 3 (callE f_draw_2 (argsC (var 0) (argsC (op2 addD (prim lenD (argsC (var 2) argsN)) (cst (.int 1))) argsN)) argsN)) (retS (op2 addD (op2 addD (sliceE (var 2) partN (partS (var 3))) (op2 ixD (var 1) (callE f_draw_2 (argsC (var 0) (argsC (cst (.int 15)) argsN)) argsN))) (sliceE (var 2) (partS (var 3)) partN))))))
instance : MB b_spoilt := by unfold b_spoilt; infer_instance
def d_spoilt : List D → M Ex D := defM 4 b_spoilt
instance : MD d_spoilt := by unfold d_spoilt; infer_instance
abbrev f_spoilt_1 : Fn := posF 1 [] d_spoilt
def b_short : Env → MS := (seqS (setS 1 (cst (.str "abcdefghijklmnopqrstuvwxyz"))) (seqS (setS 2 (op2 ixD (var 1) (callE f_draw_2 (argsC (var 0) (argsC (cst (.int 26)) argsN)) argsN))) (seqC (ifS (liftT (op2 eqD (callE f_draw_2 (argsC (var 0) (argsC (cst (.int 2)) argsN)) argsN) (cst (.int 1)))) (setS 2 (op2 addD (var 2) (op2 ixD (var 1) (callE f_draw_2 (argsC (var 0) (argsC (cst (.int 26)) argsN)) argsN)))) nilS) (seqC (ifS (liftT (op2 eqD (callE f_draw_2 (argsC (var 0) (argsC (cst (.int 9)) argsN)) argsN) (cst (.int 1)))) (setS 2 (callE f_word_1 (argsC (var 0) argsN) argsN)) nilS) (retS (var 2))))))
instance : MB b_short := by unfold b_short; infer_instance
def d_short : List D → M Ex D := defM 3 b_short
instance : MD d_short := by unfold d_short; infer_instance
abbrev f_short_1 : Fn := posF 1 [] d_short
def b_arguments : Env → MS := (retS (prim tupleF (argsC (lcE (iterR range1 (argsC (callE f_draw_2 (argsC (var 0) (argsC (cst (.int 4)) argsN)) argsN) argsN)) [1] (toName 1) yesT (callE f_short_1 (argsC (var 0) argsN) argsN) outF) argsN)))
instance : MB b_arguments := by unfold b_arguments; infer_instance
def d_arguments : List D → M Ex D := defM 2 b_arguments
instance : MD d_arguments := by unfold d_arguments; infer_instance
abbrev f_arguments_1 : Fn := posF 1 [] d_arguments
def b_any : Env → MS := (seqS (setS 1 (callE f_draw_2 (argsC (var 0) (argsC (cst (.int 14)) argsN)) argsN)) (seqS (ifS (liftT (op2 ltD (var 1) (cst (.int 2)))) (retS (callE f_word_1 (argsC (var 0) argsN) argsN)) nilS) (seqS (ifS (liftT (op2 eqD (var 1) (cst (.int 2)))) (retS (callE f_spoilt_1 (argsC (var 0) argsN) argsN)) nilS) (seqS (ifS (liftT (op2 eqD (var 1) (cst (.int 3)))) (retS (op2 addD (callE f_word_1 (argsC (var 0) argsN) argsN) (callE f_word_1 (argsC (var 0) argsN) argsN))) nilS) (seqS (ifS (liftT (op2 eqD (var 1) (cst (.int 4)))) (retS (op2 ixD (tupE (argsC (cst (.str "")) (argsC (cst .non) (argsC (cst (.bl true)) (argsC (cst (.bl false)) (argsC (cst (.int 0)) (argsC (cst (.int 1)) (argsC (tupE argsN) (argsC (lstE argsN) argsN))))))))) (callE f_draw_2 (argsC (var 0) (argsC (cst (.int 8)) argsN)) argsN))) nilS) (seqS (ifS (liftT (op2 eqD (var 1) (cst (.int 5)))) (retS (op2 subD (callE f_draw_2 (argsC (var 0) (argsC (op2 powD (cst (.int 10)) (cst (.int 30))) argsN)) argsN) (op2 powD (cst (.int 10)) (cst (.int 29))))) nilS) (seqS (ifS (liftT (op2 eqD (var 1) (cst (.int 6)))) (retS (lcE (iterR range1 (argsC (callE f_draw_2 (argsC (var 0) (argsC (cst (.int 3)) argsN)) argsN) argsN)) [2] (toName 2) yesT (callE f_word_1 (argsC (var 0) argsN) argsN) outF)) nilS) (seqS (ifS (liftT (op2 eqD (var 1) (cst (.int 7)))) (retS (tupE (argsC (callE f_word_1 (argsC (var 0) argsN) argsN) (argsC (callE f_word_1 (argsC (var 0) argsN) argsN) (argsC (callE f_word_1 (argsC (var 0) argsN) argsN) (argsC (callE f_word_1 (argsC (var 0) argsN) argsN) argsN)))))) nilS) (seqS (ifS (liftT (op2 eqD (var 1) (cst (.int 8)))) (retS (tupE (argsC (callE f_word_1 (argsC (var 0) argsN) argsN) (argsC (callE f_spoilt_1 (argsC (var 0) argsN) argsN) argsN)))) nilS) (seqS (ifS (liftT (op2 eqD (var 1) (cst (.int 9)))) (retS (tupE (argsC (callE f_word_1 (argsC (var 0) argsN) argsN) (argsC (op2 ixD (tupE (argsC (cst (.str "")) (argsC (cst .non) (argsC (cst (.bl true)) (argsC (cst (.int 1)) (argsC (tupE argsN) (argsC (lstE argsN) argsN))))))) (callE f_draw_2 (argsC (var 0) (argsC (cst (.int 6)) argsN)) argsN)) argsN)))) nilS) (seqS (ifS (liftT (op2 eqD (var 1) (cst (.int 10)))) (retS (tupE (argsC (tupE (argsC (callE f_word_1 (argsC (var 0) argsN) argsN) argsN)) argsN))) nilS) (retS (callE f_arguments_1 (argsC (var 0) argsN) argsN)))))))))))))
instance : MB b_any := by unfold b_any; infer_instance
def d_any : List D → M Ex D := defM 3 b_any
instance : MD d_any := by unfold d_any; infer_instance
abbrev f_any_1 : Fn := posF 1 [] d_any
def b_odd : Env → MS := (seqS (ifS (liftT (op2 eqD (callE f_draw_2 (argsC (var 0) (argsC (cst (.int 2)) argsN)) argsN) (cst (.int 1)))) (seqS (setS 1 (op2 ixD (callE f_table_0 argsN argsN) (callE f_draw_2 (argsC (var 0) (argsC (cst (.int 10)) argsN)) argsN))) (retS (op2 ixD (op2 ixD (var 1) (cst (.int 1))) (callE f_draw_2 (argsC (var 0) (argsC (prim lenD (argsC (op2 ixD (var 1) (cst (.int 1))) argsN)) argsN)) argsN)))) nilS) (retS (callE f_any_1 (argsC (var 0) argsN) argsN)))
instance : MB b_odd := by unfold b_odd; infer_instance
def d_odd : List D → M Ex D := defM 2 b_odd
instance : MD d_odd := by unfold d_odd; infer_instance
abbrev f_odd_1 : Fn := posF 1 [] d_odd
def b_first_wrong : Env → MS := (seqS (forS (iterL (callE f_table_0 argsN argsN)) (toName 1) (seqS (setS 2 (op2 dgetD (var 0) (op2 ixD (var 1) (cst (.int 0))))) (ifS (orT (notT (liftT (prim (isiD ownC) (argsC (var 2) (argsC (cst (.ty "str")) argsN))))) (liftT (op2 notInD (var 2) (op2 ixD (var 1) (cst (.int 1)))))) (retS (tupE (argsC (op2 ixD (var 1) (cst (.int 0))) (argsC (var 2) argsN)))) nilS))) (retS (cst .non)))
instance : MB b_first_wrong := by unfold b_first_wrong; infer_instance
def d_first_wrong : List D → M Ex D := defM 3 b_first_wrong
instance : MD d_first_wrong := by unfold d_first_wrong; infer_instance
abbrev f_first_wrong_1 : Fn := posF 1 [] d_first_wrong
def b_whole : Env → MS := (retS (andE (prim (isiD ownC) (argsC (var 0) (argsC (cst (.ty "int")) argsN))) (notE (prim (isiD ownC) (argsC (var 0) (argsC (cst (.ty "bool")) argsN))))))
instance : MB b_whole := by unfold b_whole; infer_instance
def d_whole : List D → M Ex D := defM 1 b_whole
instance : MD d_whole := by unfold d_whole; infer_instance
abbrev f_whole_1 : Fn := posF 1 [] d_whole
def b_like (r : Fn) : Env → MS := (seqS (ifS (liftT (op2 isD (var 1) (cst .non))) (retS (op2 isD (var 0) (cst .non))) nilS) (seqS (ifS (liftT (prim (isiD ownC) (argsC (var 1) (argsC (cst (.ty "bool")) argsN)))) (retS (andE (prim (isiD ownC) (argsC (var 0) (argsC (cst (.ty "bool")) argsN))) (op2 eqD (var 0) (var 1)))) nilS) (seqS (ifS (liftT (prim (isiD ownC) (argsC (var 1) (argsC (cst (.ty "int")) argsN)))) (retS (andE (callE f_whole_1 (argsC (var 0) argsN) argsN) (op2 eqD (var 0) (var 1)))) nilS) (seqS (ifS (liftT (prim (isiD ownC) (argsC (var 1) (argsC (cst (.ty "str")) argsN)))) (retS (andE (prim (isiD ownC) (argsC (var 0) (argsC (cst (.ty "str")) argsN))) (op2 eqD (var 0) (var 1)))) nilS) (seqC (ifS (liftT (prim (isiD ownC) (argsC (var 1) (argsC (cst (.ty "tuple")) argsN)))) (ifS (orT (notT (liftT (prim (isiD ownC) (argsC (var 0) (argsC (cst (.ty "tuple")) argsN))))) (liftT (op2 neD (prim lenD (argsC (var 0) argsN)) (prim lenD (argsC (var 1) argsN))))) (retS (cst (.bl false))) nilS) (ifS (orT (notT (liftT (prim (isiD ownC) (argsC (var 0) (argsC (cst (.ty "list")) argsN))))) (liftT (op2 neD (prim lenD (argsC (var 0) argsN)) (prim lenD (argsC (var 1) argsN))))) (retS (cst (.bl false))) nilS)) (seqS (forS (iterR range1 (argsC (prim lenD (argsC (var 1) argsN)) argsN)) (toName 2) (ifS (notT (liftT (callE r (argsC (op2 ixD (var 0) (var 2)) (argsC (op2 ixD (var 1) (var 2)) argsN)) argsN))) (retS (cst (.bl false))) nilS)) (retS (cst (.bl true)))))))))
instance {r : Fn} [MF r] : MB (b_like r) := by unfold b_like; infer_instance
def d_like : Nat → List D → M Ex D
  | 0 => fun _ => failM
  | n + 1 => defM 3 (b_like (posF 2 [] (d_like n)))
theorem md_like : ∀ n, MD (d_like n)
  | 0 => ⟨fun _ => mono_fail⟩
  | n + 1 => by
    have := md_like n
    unfold d_like
    infer_instance
instance {n : Nat} : MD (d_like n) := md_like n
abbrev f_like_2 : Fn := posF 2 [] (d_like 6)
def b_Maker_choices : Env → MS := (seqS (ifS (orT (notT (liftT (prim (isiD ownC) (argsC (var 0) (argsC (cst (.ty "str")) argsN))))) (liftT (op2 (tinD "CHOICES" t_CHOICES true) (var 0) (cst (.cst "CHOICES"))))) (raiseS "NoRule" ["rule"] (argsC (var 0) argsN)) nilS) (retS (op2 (tabD "CHOICES" t_CHOICES) (cst (.cst "CHOICES")) (var 0))))
instance : MB b_Maker_choices := by unfold b_Maker_choices; infer_instance
def d_Maker_choices : List D → M Ex D := defM 1 b_Maker_choices
instance : MD d_Maker_choices := by unfold d_Maker_choices; infer_instance
abbrev f_Maker_choices_1 : Fn := posF 1 [] d_Maker_choices
def b_Maker_written : Env → MS := (retS (tupE (argsC (fldE "Maker" "place" (var 0)) (argsC (fldE "Maker" "key" (var 0)) (argsC (fldE "Maker" "store" (var 0)) (argsC (fldE "Maker" "stopped" (var 0)) (argsC (fldE "Maker" "fits" (var 0)) (argsC (fldE "Maker" "misfit" (var 0)) (argsC (fldE "Maker" "compare" (var 0)) (argsC (fldE "Maker" "unlike" (var 0)) (argsC (fldE "Maker" "unready" (var 0)) (argsC (fldE "Maker" "again" (var 0)) argsN))))))))))))
instance : MB b_Maker_written := by unfold b_Maker_written; infer_instance
def d_Maker_written : List D → M Ex D := defM 1 b_Maker_written
instance : MD d_Maker_written := by unfold d_Maker_written; infer_instance
abbrev f_Maker_written_1 : Fn := posF 1 [] d_Maker_written
def b_Maker_choice : Env → MS := (seqS (forS (iterZ (argsC (cst cc_Maker_RULES) (argsC (methE "Maker" "written" f_Maker_written_1 (var 0) argsN argsN) argsN))) (toTup 2 (toCons (toName 2) (toCons (toName 3) toNil))) (ifS (andT (liftT (prim (isiD ownC) (argsC (var 1) (argsC (cst (.ty "str")) argsN)))) (liftT (op2 eqD (var 2) (var 1)))) (retS (var 3)) nilS)) (raiseS "NoRule" ["rule"] (argsC (var 1) argsN)))
instance : MB b_Maker_choice := by unfold b_Maker_choice; infer_instance
def d_Maker_choice : List D → M Ex D := defM 4 b_Maker_choice
instance : MD d_Maker_choice := by unfold d_Maker_choice; infer_instance
abbrev f_Maker_choice_2 : Fn := posF 2 [] d_Maker_choice
def b_Maker_changed : Env → MS := (seqS (forKS 1 (toName 2) (ifS (liftT (op2 (tinD "CHOICES" t_CHOICES true) (var 2) (cst (.cst "CHOICES")))) (raiseS "NoRule" ["rule"] (argsC (var 2) argsN)) nilS)) (seqS (setS 3 dicN) (seqS (forS (iterZ (argsC (cst cc_Maker_RULES) (argsC (methE "Maker" "written" f_Maker_written_1 (var 0) argsN argsN) argsN))) (toTup 2 (toCons (toName 4) (toCons (toName 5) toNil))) (keyS (var 3) (var 4) (var 5))) (seqS (exprS (updM (var 3) (var 1))) (retD [1, 3] (makeKK "Maker" (onlyK ["place", "key", "store", "stopped", "fits", "misfit", "compare", "unlike", "unready", "again"] f_Maker_init_1_place_key_store_stopped_fits_misfit_compare_unlike_unready_again) freeze 3))))))
instance : MB b_Maker_changed := by unfold b_Maker_changed; infer_instance
def d_Maker_changed : List D → M Ex D := defM 6 b_Maker_changed
instance : MD d_Maker_changed := by unfold d_Maker_changed; infer_instance
abbrev f_Maker_changed_kd (ks : List Str) : Fn := kdF ["self"] ks d_Maker_changed
def b_unknown : Env → MS := (seqS (setS 1 (cst .non)) (seqC (tryS exS (exprS (methE "Maker" "changed" (f_Maker_changed_kd ["zeal", "post"]) (var 0) argsN (argsC (cst (.str "a")) (argsC (cst (.str "b")) argsN)))) [⟨"NoRule", some 2, (hset 1 (xT (xS (xF "NoRule" "rule") xN)))⟩]) (retS (var 1))))
instance : MB b_unknown := by unfold b_unknown; infer_instance
def d_unknown : List D → M Ex D := defM 3 b_unknown
instance : MD d_unknown := by unfold d_unknown; infer_instance
abbrev f_unknown_1 : Fn := posF 1 [] d_unknown
def b_several : Env → MS := (seqS (setS 2 (lstE (argsC (callE f_odd_1 (argsC (var 0) argsN) argsN) (argsC (callE f_odd_1 (argsC (var 0) argsN) argsN) (argsC (callE f_odd_1 (argsC (var 0) argsN) argsN) argsN))))) (seqS (setS 3 (dzpM (argsC (lcE (iterL (callE f_table_0 argsN argsN)) [8] (toName 8) yesT (op2 ixD (var 8) (cst (.int 0))) outF) (argsC (methE "Maker" "written" f_Maker_written_1 (var 1) argsN argsN) argsN)))) (seqS (forS (iterR range1 (argsC (cst (.int 3)) argsN)) (toName 4) (keyS (var 3) (op2 ixD (tupE (argsC (cst (.str "again")) (argsC (cst (.str "place")) (argsC (cst (.str "key")) argsN)))) (var 4)) (op2 ixD (var 2) (var 4)))) (seqS (setS 5 (cst .non)) (seqS (setS 6 (var 1)) (seqC (tryS exS (setS 6 (methE "Maker" "changed" (f_Maker_changed_kd ["again", "place", "key"]) (var 1) argsN (argsC (op2 ixD (var 2) (cst (.int 0))) (argsC (op2 ixD (var 2) (cst (.int 1))) (argsC (op2 ixD (var 2) (cst (.int 2))) argsN))))) [⟨"BadChoice", some 7, (hset 5 (xT (xS (xF "BadChoice" "rule") (xS (xF "BadChoice" "given") xN))))⟩]) (seqS (ifS (notT (liftT (callE f_like_2 (argsC (var 5) (argsC (callE f_first_wrong_1 (argsC (var 3) argsN) argsN) argsN)) argsN))) (retD [3] (cst (.bl false))) nilS) (seqS (ifS (andT (liftT (op2 isD (var 5) (cst .non))) (liftT (op2 neD (methE "Maker" "written" f_Maker_written_1 (var 6) argsN argsN) (prim tupleF (argsC (lcE (iterL (callE f_table_0 argsN argsN)) [8] (toName 8) yesT (op2 dgetD (var 3) (op2 ixD (var 8) (cst (.int 0)))) outF) argsN))))) (retD [3] (cst (.bl false))) nilS) (retD [3] (cst (.bl true)))))))))))
instance : MB b_several := by unfold b_several; infer_instance
def d_several : List D → M Ex D := defM 9 b_several
instance : MD d_several := by unfold d_several; infer_instance
abbrev f_several_2 : Fn := posF 2 [] d_several
def b_law : Env → MS := (seqS (setS 1 (callE f_bag_1 (argsC (var 0) argsN) argsN)) (seqS (setS 2 (callE f_rules_1 (argsC (var 1) argsN) argsN)) (seqS (setS 3 (callE f_maker_1 (argsC (var 2) argsN) argsN)) (seqS (forS (iterR range1 (argsC (callE f_draw_2 (argsC (var 1) (argsC (cst (.int 3)) argsN)) argsN) argsN)) (toName 4) (keyS (var 2) (op2 ixD (op2 ixD (callE f_table_0 argsN argsN) (callE f_draw_2 (argsC (var 1) (argsC (cst (.int 10)) argsN)) argsN)) (cst (.int 0))) (callE f_odd_1 (argsC (var 1) argsN) argsN))) (seqS (setS 5 (callE f_first_wrong_1 (argsC (var 2) argsN) argsN)) (seqS (setS 6 (cst .non)) (seqC (tryS exS (exprS (callE f_maker_1 (argsC (var 2) argsN) argsN)) [⟨"BadChoice", some 7, (hset 6 (xT (xS (xF "BadChoice" "rule") (xS (xF "BadChoice" "given") xN))))⟩]) (seqS (ifS (notT (liftT (callE f_like_2 (argsC (var 6) (argsC (var 5) argsN)) argsN))) (retS (cst (.bl false))) nilS) (seqS (setS 8 (callE f_odd_1 (argsC (var 1) argsN) argsN)) (seqC (ifS (liftT (op2 eqD (callE f_draw_2 (argsC (var 1) (argsC (cst (.int 2)) argsN)) argsN) (cst (.int 1)))) (setS 8 (op2 ixD (op2 ixD (callE f_table_0 argsN argsN) (callE f_draw_2 (argsC (var 1) (argsC (cst (.int 10)) argsN)) argsN)) (cst (.int 0)))) nilS) (seqC (setS 9 (andE (prim (isiD ownC) (argsC (var 8) (argsC (cst (.ty "str")) argsN))) (op2 inD (var 8) (lcE (iterL (callE f_table_0 argsN argsN)) [10] (toName 10) yesT (op2 ixD (var 10) (cst (.int 0))) outF)))) (seqS (setS 6 (tupE argsN)) (seqC (tryS exS (exprS (callE f_Maker_choices_1 (argsC (var 8) argsN) argsN)) [⟨"NoRule", some 7, (hset 6 (xT (xS (xF "NoRule" "rule") xN)))⟩]) (seqS (ifS (notT (liftT (callE f_like_2 (argsC (var 6) (argsC (iteE (liftT (var 9)) (tupE argsN) (tupE (argsC (var 8) argsN))) argsN)) argsN))) (retS (cst (.bl false))) nilS) (seqS (setS 6 (tupE argsN)) (seqC (tryS exS (exprS (methE "Maker" "choice" f_Maker_choice_2 (var 3) (argsC (var 8) argsN) argsN)) [⟨"NoRule", some 7, (hset 6 (xT (xS (xF "NoRule" "rule") xN)))⟩]) (seqS (ifS (notT (liftT (callE f_like_2 (argsC (var 6) (argsC (iteE (liftT (var 9)) (tupE argsN) (tupE (argsC (var 8) argsN))) argsN)) argsN))) (retS (cst (.bl false))) nilS) (seqS (setS 6 (tupE argsN)) (seqC (tryS exS (exprS (methE "Maker" "changed" (f_Maker_changed_kd ["fits", "post", "again"]) (var 3) argsN (argsC (callE f_odd_1 (argsC (var 1) argsN) argsN) (argsC (cst (.str "here")) (argsC (cst (.int 3)) argsN))))) [⟨"NoRule", some 7, (hset 6 (xT (xS (xF "NoRule" "rule") xN)))⟩, ⟨"BadChoice", none, (hset 6 (xC .non))⟩]) (retS (andE (op2 eqD (var 6) (tupE (argsC (cst (.str "post")) argsN))) (andE (callE f_several_2 (argsC (var 1) (argsC (var 3) argsN)) argsN) (op2 eqD (callE f_unknown_1 (argsC (var 3) argsN) argsN) (tupE (argsC (cst (.str "zeal")) argsN)))))))))))))))))))))))))
instance : MB b_law := by unfold b_law; infer_instance
def d_law : List D → M Ex D := defM 11 b_law
instance : MD d_law := by unfold d_law; infer_instance
theorem put_Maker_0 {v0 : D} : putD "place" v0 ([] : List (Str × D)) = ([("place", v0)] : List (Str × D)) := rfl
theorem fld_Maker_place {v0 v1 v2 v3 v4 v5 v6 v7 v8 v9 : D} {s : S} : fldD "Maker" "place" (.ins "Maker" ["place", "key", "store", "stopped", "fits", "misfit", "compare", "unlike", "unready", "again"] [v0, v1, v2, v3, v4, v5, v6, v7, v8, v9]) s = some v0 := rfl
theorem put_Maker_1 {v0 v1 : D} : putD "key" v1 ([("place", v0)] : List (Str × D)) = ([("place", v0), ("key", v1)] : List (Str × D)) := rfl
theorem fld_Maker_key {v0 v1 v2 v3 v4 v5 v6 v7 v8 v9 : D} {s : S} : fldD "Maker" "key" (.ins "Maker" ["place", "key", "store", "stopped", "fits", "misfit", "compare", "unlike", "unready", "again"] [v0, v1, v2, v3, v4, v5, v6, v7, v8, v9]) s = some v1 := rfl
theorem put_Maker_2 {v0 v1 v2 : D} : putD "store" v2 ([("place", v0), ("key", v1)] : List (Str × D)) = ([("place", v0), ("key", v1), ("store", v2)] : List (Str × D)) := rfl
theorem fld_Maker_store {v0 v1 v2 v3 v4 v5 v6 v7 v8 v9 : D} {s : S} : fldD "Maker" "store" (.ins "Maker" ["place", "key", "store", "stopped", "fits", "misfit", "compare", "unlike", "unready", "again"] [v0, v1, v2, v3, v4, v5, v6, v7, v8, v9]) s = some v2 := rfl
theorem put_Maker_3 {v0 v1 v2 v3 : D} : putD "stopped" v3 ([("place", v0), ("key", v1), ("store", v2)] : List (Str × D)) = ([("place", v0), ("key", v1), ("store", v2), ("stopped", v3)] : List (Str × D)) := rfl
theorem fld_Maker_stopped {v0 v1 v2 v3 v4 v5 v6 v7 v8 v9 : D} {s : S} : fldD "Maker" "stopped" (.ins "Maker" ["place", "key", "store", "stopped", "fits", "misfit", "compare", "unlike", "unready", "again"] [v0, v1, v2, v3, v4, v5, v6, v7, v8, v9]) s = some v3 := rfl
theorem put_Maker_4 {v0 v1 v2 v3 v4 : D} : putD "fits" v4 ([("place", v0), ("key", v1), ("store", v2), ("stopped", v3)] : List (Str × D)) = ([("place", v0), ("key", v1), ("store", v2), ("stopped", v3), ("fits", v4)] : List (Str × D)) := rfl
theorem fld_Maker_fits {v0 v1 v2 v3 v4 v5 v6 v7 v8 v9 : D} {s : S} : fldD "Maker" "fits" (.ins "Maker" ["place", "key", "store", "stopped", "fits", "misfit", "compare", "unlike", "unready", "again"] [v0, v1, v2, v3, v4, v5, v6, v7, v8, v9]) s = some v4 := rfl
theorem put_Maker_5 {v0 v1 v2 v3 v4 v5 : D} : putD "misfit" v5 ([("place", v0), ("key", v1), ("store", v2), ("stopped", v3), ("fits", v4)] : List (Str × D)) = ([("place", v0), ("key", v1), ("store", v2), ("stopped", v3), ("fits", v4), ("misfit", v5)] : List (Str × D)) := rfl
theorem fld_Maker_misfit {v0 v1 v2 v3 v4 v5 v6 v7 v8 v9 : D} {s : S} : fldD "Maker" "misfit" (.ins "Maker" ["place", "key", "store", "stopped", "fits", "misfit", "compare", "unlike", "unready", "again"] [v0, v1, v2, v3, v4, v5, v6, v7, v8, v9]) s = some v5 := rfl
theorem put_Maker_6 {v0 v1 v2 v3 v4 v5 v6 : D} : putD "compare" v6 ([("place", v0), ("key", v1), ("store", v2), ("stopped", v3), ("fits", v4), ("misfit", v5)] : List (Str × D)) = ([("place", v0), ("key", v1), ("store", v2), ("stopped", v3), ("fits", v4), ("misfit", v5), ("compare", v6)] : List (Str × D)) := rfl
theorem fld_Maker_compare {v0 v1 v2 v3 v4 v5 v6 v7 v8 v9 : D} {s : S} : fldD "Maker" "compare" (.ins "Maker" ["place", "key", "store", "stopped", "fits", "misfit", "compare", "unlike", "unready", "again"] [v0, v1, v2, v3, v4, v5, v6, v7, v8, v9]) s = some v6 := rfl
theorem put_Maker_7 {v0 v1 v2 v3 v4 v5 v6 v7 : D} : putD "unlike" v7 ([("place", v0), ("key", v1), ("store", v2), ("stopped", v3), ("fits", v4), ("misfit", v5), ("compare", v6)] : List (Str × D)) = ([("place", v0), ("key", v1), ("store", v2), ("stopped", v3), ("fits", v4), ("misfit", v5), ("compare", v6), ("unlike", v7)] : List (Str × D)) := rfl
theorem fld_Maker_unlike {v0 v1 v2 v3 v4 v5 v6 v7 v8 v9 : D} {s : S} : fldD "Maker" "unlike" (.ins "Maker" ["place", "key", "store", "stopped", "fits", "misfit", "compare", "unlike", "unready", "again"] [v0, v1, v2, v3, v4, v5, v6, v7, v8, v9]) s = some v7 := rfl
theorem put_Maker_8 {v0 v1 v2 v3 v4 v5 v6 v7 v8 : D} : putD "unready" v8 ([("place", v0), ("key", v1), ("store", v2), ("stopped", v3), ("fits", v4), ("misfit", v5), ("compare", v6), ("unlike", v7)] : List (Str × D)) = ([("place", v0), ("key", v1), ("store", v2), ("stopped", v3), ("fits", v4), ("misfit", v5), ("compare", v6), ("unlike", v7), ("unready", v8)] : List (Str × D)) := rfl
theorem fld_Maker_unready {v0 v1 v2 v3 v4 v5 v6 v7 v8 v9 : D} {s : S} : fldD "Maker" "unready" (.ins "Maker" ["place", "key", "store", "stopped", "fits", "misfit", "compare", "unlike", "unready", "again"] [v0, v1, v2, v3, v4, v5, v6, v7, v8, v9]) s = some v8 := rfl
theorem put_Maker_9 {v0 v1 v2 v3 v4 v5 v6 v7 v8 v9 : D} : putD "again" v9 ([("place", v0), ("key", v1), ("store", v2), ("stopped", v3), ("fits", v4), ("misfit", v5), ("compare", v6), ("unlike", v7), ("unready", v8)] : List (Str × D)) = ([("place", v0), ("key", v1), ("store", v2), ("stopped", v3), ("fits", v4), ("misfit", v5), ("compare", v6), ("unlike", v7), ("unready", v8), ("again", v9)] : List (Str × D)) := rfl
theorem fld_Maker_again {v0 v1 v2 v3 v4 v5 v6 v7 v8 v9 : D} {s : S} : fldD "Maker" "again" (.ins "Maker" ["place", "key", "store", "stopped", "fits", "misfit", "compare", "unlike", "unready", "again"] [v0, v1, v2, v3, v4, v5, v6, v7, v8, v9]) s = some v9 := rfl
theorem fz_Maker {v0 v1 v2 v3 v4 v5 v6 v7 v8 v9 : D} {s : S} {a : Addr} {Q : D → S → Prop} {E : Ex → S → Prop} (h : s.map a = none) : freeze (.ref a) (s.set a (.ins "Maker" ([("place", v0), ("key", v1), ("store", v2), ("stopped", v3), ("fits", v4), ("misfit", v5), ("compare", v6), ("unlike", v7), ("unready", v8), ("again", v9)] : List (Str × D)))) Q E = Q (.ins "Maker" ["place", "key", "store", "stopped", "fits", "misfit", "compare", "unlike", "unready", "again"] [v0, v1, v2, v3, v4, v5, v6, v7, v8, v9]) s := by
  refine propext ⟨fun ⟨a2, o, x, e, h1, h2, h3⟩ => ?_, fun z => ⟨a, _, _, rfl, S.set_same, rfl, by rw [S.del_set h]; exact z⟩⟩
  cases e
  rw [S.set_same] at h1
  cases h1
  cases h2
  rw [S.del_set h] at h3
  exact h3
theorem iok_Maker_changed {vs : List D} {s : S} : insOk "Maker" "changed" (.ins "Maker" ["place", "key", "store", "stopped", "fits", "misfit", "compare", "unlike", "unready", "again"] vs) s = some () := rfl
theorem iok_Maker_choice {vs : List D} {s : S} : insOk "Maker" "choice" (.ins "Maker" ["place", "key", "store", "stopped", "fits", "misfit", "compare", "unlike", "unready", "again"] vs) s = some () := rfl
theorem iok_Maker_written {vs : List D} {s : S} : insOk "Maker" "written" (.ins "Maker" ["place", "key", "store", "stopped", "fits", "misfit", "compare", "unlike", "unready", "again"] vs) s = some () := rfl
theorem xg_Maker_init_1_place_key_store_stopped_fits_misfit_compare_unlike_unready_again {v0 z0 z1 z2 z3 z4 z5 z6 z7 z8 z9 : D} : g_Maker_init_1_place_key_store_stopped_fits_misfit_compare_unlike_unready_again [v0] [] [] [z0, z1, z2, z3, z4, z5, z6, z7, z8, z9] = [v0, z0, z1, z2, z3, z4, z5, z6, z7, z8, z9] := rfl
end DL
namespace DL
def runs_mir := And.intro @exS_BadChoice_BadChoice (And.intro @exS_BadChoice_NoRule (And.intro @exS_NoRule_BadChoice (And.intro @exS_NoRule_NoRule (And.intro @put_Maker_0 (And.intro @fld_Maker_place (And.intro @put_Maker_1 (And.intro @fld_Maker_key (And.intro @put_Maker_2 (And.intro @fld_Maker_store (And.intro @put_Maker_3 (And.intro @fld_Maker_stopped (And.intro @put_Maker_4 (And.intro @fld_Maker_fits (And.intro @put_Maker_5 (And.intro @fld_Maker_misfit (And.intro @put_Maker_6 (And.intro @fld_Maker_compare (And.intro @put_Maker_7 (And.intro @fld_Maker_unlike (And.intro @put_Maker_8 (And.intro @fld_Maker_unready (And.intro @put_Maker_9 (And.intro @fld_Maker_again (And.intro @fz_Maker (And.intro @iok_Maker_changed (And.intro @iok_Maker_choice (And.intro @iok_Maker_written (@xg_Maker_init_1_place_key_store_stopped_fits_misfit_compare_unlike_unready_again))))))))))))))))))))))))))))
end DL
namespace DL
open PySem L2
def letters : List Nat := ("abcdefghijklmnopqrstuvwxyz" : Str).cps.toList
def isName (z : Str) : Bool := decide (1 ≤ z.length ∧ z.length ≤ 8) && z.cps.toList.all fun c => decide (c ∈ letters)
def isNameD : D → Bool
  | .str z => isName z
  | _ => false
def flat : D → Bool
  | .non => true
  | .bl _ => true
  | .int _ => true
  | .str z => decide (z.length ≤ sizeLine)
  | .tup _ => true
  | .lst _ => true
  | _ => false
theorem isName_iff {z : Str} : isName z = true ↔ (1 ≤ z.length ∧ z.length ≤ 8) ∧ ∀ c ∈ z.cps.toList, c ∈ letters := by
  unfold isName
  rw [Bool.and_eq_true, List.all_eq_true]
  simp only [decide_eq_true_eq]
theorem letters26 : letters.length = 26 := by decide +kernel
theorem abc_len : ("abcdefghijklmnopqrstuvwxyz" : Str).length ≤ sizeLine := by decide +kernel
theorem ix_letter {s : S} {v : Int} (h0 : 0 ≤ v) (h1 : v < 26) : ∃ c, c ∈ letters ∧ ixD (.str "abcdefghijklmnopqrstuvwxyz") (.int v) s = some (.str ⟨#[c]⟩) := by
  obtain ⟨c, h2, h3⟩ := atI_pos (xs := letters) h0 (by rw [letters26]; exact h1)
  exact ⟨c, h3, ix_str abc_len h2⟩
def sg (c : Nat) : Str := ⟨#[c]⟩
theorem join_signs : ∀ cs : List Nat, (Txt.join ("" : Str) (cs.map sg)).cps.toList = cs := fun cs => by
  rw [TL.join_eq]
  show TL.tl (Str.join ("" : Str) (cs.map sg)) = cs
  rw [TL.tl_join]
  have e : TL.tl ("" : Str) = [] := by decide +kernel
  rw [e, List.map_map]
  induction cs with
  | nil => rfl
  | cons c r ih =>
    cases r with
    | nil => rfl
    | cons d r =>
      show TL.tl (sg c) ++ ([] ++ TL.joinL [] ((d :: r).map (TL.tl ∘ sg))) = c :: d :: r
      rw [ih]
      rfl
theorem len_list (z : Str) : z.length = z.cps.toList.length := by
  show z.cps.size = _
  simp
theorem strsOf_map : ∀ ys : List Str, strsOf (ys.map .str) = some ys
  | [] => rfl
  | y :: ys => by show (strsOf (ys.map .str)).map (fun r => y :: r) = _; rw [strsOf_map ys]; rfl
theorem join_lst {z : Str} {ys : List Str} {s : S} (h : (ys.map (·.length)).sum + ys.length * z.length ≤ 16777216) : joinD (.str z) (.lst (ys.map .str)) s = some (.str (Txt.join z ys)) := by
  show ((some (ys.map D.str)).bind fun ds => (strsOf ds).bind fun ys => if (ys.map (·.length)).sum + ys.length * z.length ≤ 16777216 then some (D.str (Txt.join z ys)) else none) = _
  rw [Option.bind_some, strsOf_map, Option.bind_some, if_pos h]
theorem sum_sg (cs : List Nat) : ((cs.map sg).map (·.length)).sum = cs.length := by
  induction cs with
  | nil => rfl
  | cons c r ih => simp only [List.map_cons, List.sum_cons, List.length_cons, ih]; show 1 + r.length = _; omega
theorem range1_nat {n : Int} (h0 : 0 ≤ n) (h1 : n ≤ 1000000) : range1 [.int n] = some ⟨intsD 0 n.toNat, fun _ => True⟩ := if_pos ⟨h1, by omega⟩
theorem word_wp {b c : Addr} {s : S} {Q : D → S → Prop} {E : Ex → S → Prop} (hb : s.map b = some (.bag c)) (q : ∀ z, isName z = true → Q (.str z) s) : d_word [.ref b] s Q E := by
  unfold d_word b_word
  simp -implicitDefEqProofs only [word_snoc, DL.runs_D14, DL.runs_D15, DL.runs_D16, DL.runs_D17, DL.runs_D19, DL.runs_D20, DL.runs_D23, DL.runs_D24, DL.runs_D25, DL.runs_D26, DL.runs_D31, DL.runs_D34, DL.runs_D36, DL.runs_D38, DL.runs_D43, DL.runs_D45, DL.runs_mir, Nat.reduceSub, Nat.reduceAdd]
  refine draw_wp hb (by decide) (by decide) fun m m0 m1 => ?_
  simp -implicitDefEqProofs only [word_snoc, DL.runs_D14, DL.runs_D15, DL.runs_D16, DL.runs_D17, DL.runs_D19, DL.runs_D20, DL.runs_D23, DL.runs_D24, DL.runs_D25, DL.runs_D26, DL.runs_D31, DL.runs_D34, DL.runs_D36, DL.runs_D38, DL.runs_D43, DL.runs_D45, DL.runs_mir, range1_nat (show 0 ≤ 1 + m by omega) (by omega)]
  refine lc_inv (fun ds acc s' => s' = s ∧ ∃ cs : List Nat, (∀ c ∈ cs, c ∈ letters) ∧ acc = (cs.map sg).map .str ∧ cs.length + ds.length = (1 + m).toNat) _ _ _ ⟨rfl, [], (fun _ h => by cases h), rfl, by rw [ints_len]; simp⟩ ?_ ?_
  · rintro d ds acc s' ⟨rfl, cs, h1, rfl, h2⟩
    refine ⟨trivial, _, rfl, ?_⟩
    simp -implicitDefEqProofs only [word_snoc, DL.runs_D14, DL.runs_D15, DL.runs_D16, DL.runs_D17, DL.runs_D19, DL.runs_D20, DL.runs_D23, DL.runs_D24, DL.runs_D25, DL.runs_D26, DL.runs_D31, DL.runs_D34, DL.runs_D36, DL.runs_D38, DL.runs_D43, DL.runs_D45, DL.runs_mir]
    refine draw_wp hb (by decide) (by decide) fun v v0 v1 => ?_
    obtain ⟨c, h3, h4⟩ := ix_letter (s := s') v0 v1
    simp -implicitDefEqProofs only [h4, word_snoc, DL.runs_D14, DL.runs_D15, DL.runs_D16, DL.runs_D17, DL.runs_D19, DL.runs_D20, DL.runs_D23, DL.runs_D24, DL.runs_D25, DL.runs_D26, DL.runs_D31, DL.runs_D34, DL.runs_D36, DL.runs_D38, DL.runs_D43, DL.runs_D45, DL.runs_mir]
    refine ⟨cs ++ [c], ?_, by simp [sg], by simp at h2 ⊢; omega⟩
    intro x hx
    rcases List.mem_append.mp hx with q | q
    · exact h1 x q
    · rw [List.mem_singleton.mp q]; exact h3
  · rintro acc s' ⟨rfl, cs, h1, rfl, h2⟩
    refine ⟨trivial, ?_⟩
    have hj : ((cs.map sg).map (·.length)).sum + (cs.map sg).length * ("" : Str).length ≤ 16777216 := by
      rw [sum_sg]
      show cs.length + (cs.map sg).length * 0 ≤ 16777216
      simp at h2
      omega
    simp -implicitDefEqProofs only [word_snoc, DL.runs_D14, DL.runs_D15, DL.runs_D16, DL.runs_D17, DL.runs_D19, DL.runs_D20, DL.runs_D23, DL.runs_D24, DL.runs_D25, DL.runs_D26, DL.runs_D31, DL.runs_D34, DL.runs_D36, DL.runs_D38, DL.runs_D43, DL.runs_D45, DL.runs_mir, join_lst hj]
    refine q _ ?_
    rw [isName_iff, len_list, join_signs]
    simp at h2
    exact ⟨by omega, h1⟩
theorem name1 {c : Nat} (h : c ∈ letters) : isName (sg c) = true := isName_iff.mpr ⟨⟨by show 1 ≤ 1; decide, by show 1 ≤ 8; decide⟩, fun x hx => by
  have : x = c := by simpa [sg] using hx
  rw [this]; exact h⟩
theorem str_app (a b : Str) : (a ++ b).cps.toList = a.cps.toList ++ b.cps.toList := by
  show (a.cps ++ b.cps).toList = _
  simp
theorem name2 {c d : Nat} (h : c ∈ letters) (k : d ∈ letters) : isName (sg c ++ sg d) = true := by
  rw [isName_iff, len_list, str_app]
  refine ⟨⟨by simp [sg], by simp [sg]⟩, fun x hx => ?_⟩
  rcases List.mem_append.mp hx with q | q
  · have : x = c := by simpa [sg] using q
    rw [this]; exact h
  · have : x = d := by simpa [sg] using q
    rw [this]; exact k
theorem sg_add {c d : Nat} {s : S} : addD (.str ⟨#[c]⟩) (.str ⟨#[d]⟩) s = some (.str (sg c ++ sg d)) := add_str (by show 1 + 1 ≤ sizeLine; decide)
end DL
namespace DL
open PySem L2
theorem short_wp {b c : Addr} {s : S} {Q : D → S → Prop} {E : Ex → S → Prop} (hb : s.map b = some (.bag c)) (q : ∀ z, isName z = true → Q (.str z) s) : d_short [.ref b] s Q E := by
  unfold d_short b_short
  simp -implicitDefEqProofs only [x_seqC, word_snoc, DL.runs_D14, DL.runs_D15, DL.runs_D16, DL.runs_D17, DL.runs_D19, DL.runs_D20, DL.runs_D23, DL.runs_D24, DL.runs_D25, DL.runs_D26, DL.runs_D31, DL.runs_D34, DL.runs_D36, DL.runs_D38, DL.runs_D43, DL.runs_D45, DL.runs_mir, Nat.reduceSub, Nat.reduceAdd]
  refine draw_wp hb (by decide) (by decide) fun v v0 v1 => ?_
  obtain ⟨x, h3, h4⟩ := ix_letter (s := s) v0 v1
  simp -implicitDefEqProofs only [x_seqC, h4, word_snoc, DL.runs_D14, DL.runs_D15, DL.runs_D16, DL.runs_D17, DL.runs_D19, DL.runs_D20, DL.runs_D23, DL.runs_D24, DL.runs_D25, DL.runs_D26, DL.runs_D31, DL.runs_D34, DL.runs_D36, DL.runs_D38, DL.runs_D43, DL.runs_D45, DL.runs_mir]
  refine draw_wp hb (by decide) (by decide) fun k k0 k1 => ?_
  simp -implicitDefEqProofs only [x_seqC, word_snoc, DL.runs_D14, DL.runs_D15, DL.runs_D16, DL.runs_D17, DL.runs_D19, DL.runs_D20, DL.runs_D23, DL.runs_D24, DL.runs_D25, DL.runs_D26, DL.runs_D31, DL.runs_D34, DL.runs_D36, DL.runs_D38, DL.runs_D43, DL.runs_D45, DL.runs_mir]
  refine selB_of (fun _ => ?_) (fun _ => ?_)
  · refine draw_wp hb (by decide) (by decide) fun v v0 v1 => ?_
    obtain ⟨y, h5, h6⟩ := ix_letter (s := s) v0 v1
    simp only [x_seqC, h6, sg_add, word_snoc, DL.runs_D14, DL.runs_D15, DL.runs_D16, DL.runs_D17, DL.runs_D19, DL.runs_D20, DL.runs_D23, DL.runs_D24, DL.runs_D25, DL.runs_D26, DL.runs_D31, DL.runs_D34, DL.runs_D36, DL.runs_D38, DL.runs_D43, DL.runs_D45, DL.runs_mir]
    refine draw_wp hb (by decide) (by decide) fun k k0 k1 => ?_
    simp -implicitDefEqProofs only [x_seqC, word_snoc, DL.runs_D14, DL.runs_D15, DL.runs_D16, DL.runs_D17, DL.runs_D19, DL.runs_D20, DL.runs_D23, DL.runs_D24, DL.runs_D25, DL.runs_D26, DL.runs_D31, DL.runs_D34, DL.runs_D36, DL.runs_D38, DL.runs_D43, DL.runs_D45, DL.runs_mir]
    exact selB_of (fun _ => word_wp hb q) (fun _ => q _ (name2 h3 h5))
  · refine draw_wp hb (by decide) (by decide) fun k k0 k1 => ?_
    simp -implicitDefEqProofs only [x_seqC, word_snoc, DL.runs_D14, DL.runs_D15, DL.runs_D16, DL.runs_D17, DL.runs_D19, DL.runs_D20, DL.runs_D23, DL.runs_D24, DL.runs_D25, DL.runs_D26, DL.runs_D31, DL.runs_D34, DL.runs_D36, DL.runs_D38, DL.runs_D43, DL.runs_D45, DL.runs_mir]
    exact selB_of (fun _ => word_wp hb q) (fun _ => q _ (name1 h3))
end DL
namespace DL
open PySem L2
section
variable {ρ : Env} {s : S} {E : Ex → S → Prop} {EE : Ex × Env → S → Prop} {Q : D → S → Prop} {QU : Unit → S → Prop} {QF : Fl → S → Prop} {a : Addr} {c f : Str} {fs : List (Str × D)} {v d : D} {ds es : List D}
theorem x_setFld : setFld c f (.ref a) v (s.set a (.ins c fs)) QU EE = (fs.length < 900 ∧ QU () (s.set a (.ins c (putD f v fs)))) := by
  refine propext ⟨fun ⟨a', fs', e, h1, h2, h3⟩ => ?_, fun ⟨h1, h2⟩ => ⟨a, fs, rfl, S.set_same, h1, by rw [S.set_set]; exact h2⟩⟩
  cases e
  rw [S.set_same] at h1
  cases h1
  rw [S.set_set] at h3
  exact ⟨h2, h3⟩
end
structure KD where
  name : Str
  base : Option Str
  own : Bool
  beg : Option (Str × Bool)
deriving DecidableEq
def oStr : Option Str → D
  | none => .non
  | some z => .str z
def begD : Option (Str × Bool) → D
  | none => .non
  | some p => .tup [.str p.1, .bl p.2]
def beginD : Option (Str × Bool) → D
  | none => .non
  | some p => .ins "Part" ["up", "guarded"] [.str p.1, .bl p.2]
def KD.row (k : KD) : D := .tup [.str k.name, oStr k.base, .bl k.own, begD k.beg]
def KD.ins (k : KD) : D := .ins "Kind" ["name", "base", "own", "begin"] [.str k.name, oStr k.base, .bl k.own, beginD k.beg]
def upsL : List Str := ["first", "last", "alone"]
structure KD.Good (k : KD) : Prop where
  name : isName k.name = true
  base : ∀ b, k.base = some b → isName b = true
  beg : ∀ p, k.beg = some p → p.1 ∈ upsL
def isUpD : D → Bool
  | .str z => decide (z ∈ upsL)
  | _ => false
theorem inB_strs {z : Str} {s : S} : ∀ {cs : List Str}, inD (.str z) (.tup (cs.map .str)) s = some (.bl (decide (z ∈ cs))) := by
  intro cs
  have e1 : scalsV (cs.map D.str) = some (cs.map V.str) := by
    induction cs with
    | nil => rfl
    | cons c r ih => rw [List.map_cons, List.map_cons]; unfold scalsV; rw [ih]; rfl
  have e2 : inB s (.str z) (.tup (cs.map .str)) = some (inV (.str z) (cs.map V.str)) := by
    show (some (V.str z)).bind (fun v => (some (cs.map D.str)).bind fun ds => (scalsV ds).map fun vs => inV v vs) = _
    rw [Option.bind_some, Option.bind_some, e1]; rfl
  show (inB s (.str z) (.tup (cs.map .str))).map D.bl = _
  rw [e2, Option.map_some]
  have e3 : inV (.str z) (cs.map V.str) = decide (z ∈ cs) := by
    unfold inV
    clear e1 e2
    induction cs with
    | nil => simp
    | cons c r ih =>
      rw [List.map_cons, List.any_cons, ih]
      have e : eqV (.str c) (.str z) = decide (c = z) := rfl
      rw [e]
      by_cases h : c = z
      · subst h; simp
      · have h' : ¬ z = c := fun e => h e.symm
        simp [h, h']
  rw [e3]
theorem atI_nat {α : Type} {xs : List α} {i : Nat} (h : i < xs.length) : atI xs (i : Int) = xs[i]? := by
  unfold atI ixN
  rw [if_pos (Int.natCast_nonneg i), if_pos (Int.ofNat_lt.mpr h)]
  rfl
theorem at_0 {α : Type} {x0 : α} {xs : List α} : atI (x0 :: xs) 0 = some x0 := by
  rw [show (0 : Int) = ((0 : Nat) : Int) from rfl, atI_nat (by simp)]; rfl
theorem at_1 {α : Type} {x0 x1 : α} {xs : List α} : atI (x0 :: x1 :: xs) 1 = some x1 := by
  rw [show (1 : Int) = ((1 : Nat) : Int) from rfl, atI_nat (by simp)]; rfl
theorem at_2 {α : Type} {x0 x1 x2 : α} {xs : List α} : atI (x0 :: x1 :: x2 :: xs) 2 = some x2 := by
  rw [show (2 : Int) = ((2 : Nat) : Int) from rfl, atI_nat (by simp)]; rfl
theorem at_3 {α : Type} {x0 x1 x2 x3 : α} {xs : List α} : atI (x0 :: x1 :: x2 :: x3 :: xs) 3 = some x3 := by
  rw [show (3 : Int) = ((3 : Nat) : Int) from rfl, atI_nat (by simp)]; rfl
theorem at_4 {α : Type} {x0 x1 x2 x3 x4 : α} {xs : List α} : atI (x0 :: x1 :: x2 :: x3 :: x4 :: xs) 4 = some x4 := by
  rw [show (4 : Int) = ((4 : Nat) : Int) from rfl, atI_nat (by simp)]; rfl
theorem at_5 {α : Type} {x0 x1 x2 x3 x4 x5 : α} {xs : List α} : atI (x0 :: x1 :: x2 :: x3 :: x4 :: x5 :: xs) 5 = some x5 := by
  rw [show (5 : Int) = ((5 : Nat) : Int) from rfl, atI_nat (by simp)]; rfl
theorem at_6 {α : Type} {x0 x1 x2 x3 x4 x5 x6 : α} {xs : List α} : atI (x0 :: x1 :: x2 :: x3 :: x4 :: x5 :: x6 :: xs) 6 = some x6 := by
  rw [show (6 : Int) = ((6 : Nat) : Int) from rfl, atI_nat (by simp)]; rfl
theorem at_7 {α : Type} {x0 x1 x2 x3 x4 x5 x6 x7 : α} {xs : List α} : atI (x0 :: x1 :: x2 :: x3 :: x4 :: x5 :: x6 :: x7 :: xs) 7 = some x7 := by
  rw [show (7 : Int) = ((7 : Nat) : Int) from rfl, atI_nat (by simp)]; rfl
theorem at_8 {α : Type} {x0 x1 x2 x3 x4 x5 x6 x7 x8 : α} {xs : List α} : atI (x0 :: x1 :: x2 :: x3 :: x4 :: x5 :: x6 :: x7 :: x8 :: xs) 8 = some x8 := by
  rw [show (8 : Int) = ((8 : Nat) : Int) from rfl, atI_nat (by simp)]; rfl
theorem at_9 {α : Type} {x0 x1 x2 x3 x4 x5 x6 x7 x8 x9 : α} {xs : List α} : atI (x0 :: x1 :: x2 :: x3 :: x4 :: x5 :: x6 :: x7 :: x8 :: x9 :: xs) 9 = some x9 := by
  rw [show (9 : Int) = ((9 : Nat) : Int) from rfl, atI_nat (by simp)]; rfl
theorem isNameD_str {z : Str} : isNameD (.str z) = isName z := rfl
theorem oStr_some {z : Str} : oStr (some z) = .str z := rfl
theorem oStr_none : oStr none = .non := rfl
theorem begD_some {p : Str × Bool} : begD (some p) = .tup [.str p.1, .bl p.2] := rfl
theorem begD_none : begD none = .non := rfl
theorem isUpD_str {z : Str} : isUpD (.str z) = decide (z ∈ upsL) := rfl
end DL
namespace DL
def runs_sp_exec := And.intro @x_setFld (And.intro @at_0 (And.intro @at_1 (And.intro @at_2 (And.intro @at_3 (And.intro @at_4 (And.intro @at_5 (And.intro @at_6 (And.intro @at_7 (And.intro @at_8 (And.intro @at_9 (And.intro @isNameD_str (And.intro @oStr_some (And.intro @oStr_none (And.intro @begD_some (And.intro @begD_none (@isUpD_str))))))))))))))))
end DL
namespace DL
open PySem L2
section
variable {s : S}
theorem del_two {a1 a2 : Addr} {o1 o2 : Ob} (h1 : s.map a1 = none) (h2 : (s.set a1 o1).map a2 = none) : ((s.set a1 o1).set a2 o2).del a1 = s.set a2 o2 := by
  have hne : a2 ≠ a1 := by rintro rfl; rw [S.set_same] at h2; cases h2
  refine S.ext fun b => ?_
  by_cases e : b = a1
  · subst e
    rw [S.del_same, S.set_ne (Ne.symm hne), h1]
  · rw [S.del_ne e]
    by_cases e2 : b = a2
    · subst e2; rw [S.set_same, S.set_same]
    · rw [S.set_ne e2, S.set_ne e, S.set_ne e2]
end
end DL
namespace DL
open PySem L2
mutual
def noMix : D → D → Bool
  | .bl _, .int _ => false
  | .int _, .bl _ => false
  | .tup xs, .tup ys => noMixs xs ys
  | .lst xs, .lst ys => noMixs xs ys
  | _, _ => true
def noMixs : List D → List D → Bool
  | x :: xs, y :: ys => noMix x y && noMixs xs ys
  | _, _ => true
end
mutual
theorem eqv_iff : ∀ {x y : D} {p q : PyData}, toPy x = some p → toPy y = some q → noMix x y = true → (PyData.eqv p q = true ↔ x = y)
  | .non, y, p, q, hx, hy, m => by
    cases (Option.some.inj hx)
    cases y with
    | non => cases (Option.some.inj hy); exact ⟨fun _ => rfl, fun _ => rfl⟩
    | bl _ => cases (Option.some.inj hy); exact ⟨fun h => (by cases h), fun h => (by cases h)⟩
    | int _ => cases (Option.some.inj hy); exact ⟨fun h => (by cases h), fun h => (by cases h)⟩
    | str _ => cases (Option.some.inj hy); exact ⟨fun h => (by cases h), fun h => (by cases h)⟩
    | tup ys => unfold toPy at hy; obtain ⟨ps, h1, rfl⟩ := Option.map_eq_some_iff.mp hy; exact ⟨fun h => (by cases h), fun h => (by cases h)⟩
    | lst ys => unfold toPy at hy; obtain ⟨ps, h1, rfl⟩ := Option.map_eq_some_iff.mp hy; exact ⟨fun h => (by cases h), fun h => (by cases h)⟩
    | _ => cases hy
  | .bl b, y, p, q, hx, hy, m => by
    cases (Option.some.inj hx)
    cases y with
    | bl c => cases (Option.some.inj hy); show (b == c) = true ↔ _; simp
    | non => cases (Option.some.inj hy); exact ⟨fun h => (by cases h), fun h => (by cases h)⟩
    | int _ => cases m
    | str _ => cases (Option.some.inj hy); exact ⟨fun h => (by cases h), fun h => (by cases h)⟩
    | tup ys => unfold toPy at hy; obtain ⟨ps, h1, rfl⟩ := Option.map_eq_some_iff.mp hy; exact ⟨fun h => (by cases h), fun h => (by cases h)⟩
    | lst ys => unfold toPy at hy; obtain ⟨ps, h1, rfl⟩ := Option.map_eq_some_iff.mp hy; exact ⟨fun h => (by cases h), fun h => (by cases h)⟩
    | _ => cases hy
  | .int b, y, p, q, hx, hy, m => by
    cases (Option.some.inj hx)
    cases y with
    | int c => cases (Option.some.inj hy); show (b == c) = true ↔ _; simp
    | non => cases (Option.some.inj hy); exact ⟨fun h => (by cases h), fun h => (by cases h)⟩
    | bl _ => cases m
    | str _ => cases (Option.some.inj hy); exact ⟨fun h => (by cases h), fun h => (by cases h)⟩
    | tup ys => unfold toPy at hy; obtain ⟨ps, h1, rfl⟩ := Option.map_eq_some_iff.mp hy; exact ⟨fun h => (by cases h), fun h => (by cases h)⟩
    | lst ys => unfold toPy at hy; obtain ⟨ps, h1, rfl⟩ := Option.map_eq_some_iff.mp hy; exact ⟨fun h => (by cases h), fun h => (by cases h)⟩
    | _ => cases hy
  | .str b, y, p, q, hx, hy, m => by
    cases (Option.some.inj hx)
    cases y with
    | str c => cases (Option.some.inj hy); show (b == c) = true ↔ _; simp
    | non => cases (Option.some.inj hy); exact ⟨fun h => (by cases h), fun h => (by cases h)⟩
    | bl _ => cases (Option.some.inj hy); exact ⟨fun h => (by cases h), fun h => (by cases h)⟩
    | int _ => cases (Option.some.inj hy); exact ⟨fun h => (by cases h), fun h => (by cases h)⟩
    | tup ys => unfold toPy at hy; obtain ⟨ps, h1, rfl⟩ := Option.map_eq_some_iff.mp hy; exact ⟨fun h => (by cases h), fun h => (by cases h)⟩
    | lst ys => unfold toPy at hy; obtain ⟨ps, h1, rfl⟩ := Option.map_eq_some_iff.mp hy; exact ⟨fun h => (by cases h), fun h => (by cases h)⟩
    | _ => cases hy
  | .tup xs, y, p, q, hx, hy, m => by
    unfold toPy at hx
    obtain ⟨ps, h1, rfl⟩ := Option.map_eq_some_iff.mp hx
    cases y with
    | tup ys =>
      unfold toPy at hy
      obtain ⟨qs, h2, rfl⟩ := Option.map_eq_some_iff.mp hy
      unfold noMix at m
      show PyData.eqvAll ps qs = true ↔ _
      rw [eqvs_iff h1 h2 m]
      exact ⟨fun h => by rw [h], fun h => by cases h; rfl⟩
    | non => cases (Option.some.inj hy); exact ⟨fun h => (by cases h), fun h => (by cases h)⟩
    | bl _ => cases (Option.some.inj hy); exact ⟨fun h => (by cases h), fun h => (by cases h)⟩
    | int _ => cases (Option.some.inj hy); exact ⟨fun h => (by cases h), fun h => (by cases h)⟩
    | str _ => cases (Option.some.inj hy); exact ⟨fun h => (by cases h), fun h => (by cases h)⟩
    | lst ys => unfold toPy at hy; obtain ⟨ps, h1, rfl⟩ := Option.map_eq_some_iff.mp hy; exact ⟨fun h => (by cases h), fun h => (by cases h)⟩
    | _ => cases hy
  | .lst xs, y, p, q, hx, hy, m => by
    unfold toPy at hx
    obtain ⟨ps, h1, rfl⟩ := Option.map_eq_some_iff.mp hx
    cases y with
    | lst ys =>
      unfold toPy at hy
      obtain ⟨qs, h2, rfl⟩ := Option.map_eq_some_iff.mp hy
      unfold noMix at m
      show PyData.eqvAll ps qs = true ↔ _
      rw [eqvs_iff h1 h2 m]
      exact ⟨fun h => by rw [h], fun h => by cases h; rfl⟩
    | non => cases (Option.some.inj hy); exact ⟨fun h => (by cases h), fun h => (by cases h)⟩
    | bl _ => cases (Option.some.inj hy); exact ⟨fun h => (by cases h), fun h => (by cases h)⟩
    | int _ => cases (Option.some.inj hy); exact ⟨fun h => (by cases h), fun h => (by cases h)⟩
    | str _ => cases (Option.some.inj hy); exact ⟨fun h => (by cases h), fun h => (by cases h)⟩
    | tup ys => unfold toPy at hy; obtain ⟨ps, h1, rfl⟩ := Option.map_eq_some_iff.mp hy; exact ⟨fun h => (by cases h), fun h => (by cases h)⟩
    | _ => cases hy
  | .dic _ _, _, _, _, hx, _, _ => by cases hx
  | .ins _ _ _, _, _, _, hx, _, _ => by cases hx
  | .ref _, _, _, _, hx, _, _ => by cases hx
  | .cls _, _, _, _, hx, _, _ => by cases hx
  | .cst _, _, _, _, hx, _, _ => by cases hx
  | .ty _, _, _, _, hx, _, _ => by cases hx
  | .scr, _, _, _, hx, _, _ => by cases hx
theorem eqvs_iff : ∀ {x y : List D} {p q : List PyData}, toPys x = some p → toPys y = some q → noMixs x y = true → (PyData.eqvAll p q = true ↔ x = y)
  | [], y, p, q, hx, hy, m => by
    cases (Option.some.inj hx)
    cases y with
    | nil => cases (Option.some.inj hy); exact ⟨fun _ => rfl, fun _ => rfl⟩
    | cons d ds =>
      unfold toPys at hy
      obtain ⟨a, h1, hy⟩ := Option.bind_eq_some_iff.mp hy
      obtain ⟨as, h2, rfl⟩ := Option.map_eq_some_iff.mp hy
      exact ⟨fun h => (by cases h), fun h => (by cases h)⟩
  | x :: xs, y, p, q, hx, hy, m => by
    unfold toPys at hx
    obtain ⟨a, h1, hx⟩ := Option.bind_eq_some_iff.mp hx
    obtain ⟨as, h2, rfl⟩ := Option.map_eq_some_iff.mp hx
    cases y with
    | nil => cases (Option.some.inj hy); exact ⟨fun h => (by cases h), fun h => (by cases h)⟩
    | cons d ds =>
      unfold toPys at hy
      obtain ⟨b, h3, hy⟩ := Option.bind_eq_some_iff.mp hy
      obtain ⟨bs, h4, rfl⟩ := Option.map_eq_some_iff.mp hy
      unfold noMixs at m
      obtain ⟨m1, m2⟩ := He.ba m
      show (PyData.eqv a b && PyData.eqvAll as bs) = true ↔ _
      rw [Bool.and_eq_true, eqv_iff h1 h3 m1, eqvs_iff h2 h4 m2]
      exact ⟨fun ⟨h, k⟩ => by rw [h, k], fun h => by cases h; exact ⟨rfl, rfl⟩⟩
end
mutual
def okE : D → Bool
  | .non => true
  | .bl _ => true
  | .int _ => true
  | .str z => PyData.strOk z
  | .tup xs => okEs xs
  | .lst xs => okEs xs
  | _ => false
def okEs : List D → Bool
  | [] => true
  | x :: xs => okE x && okEs xs
end
mutual
def depE : D → Nat
  | .tup xs => depEs xs + 1
  | .lst xs => depEs xs + 1
  | _ => 0
def depEs : List D → Nat
  | [] => 0
  | x :: xs => max (depE x) (depEs xs)
end
mutual
theorem okE_py : ∀ {x : D}, okE x = true → ∃ p, toPy x = some p ∧ p.canLay0 = true ∧ p.depth = depE x
  | .non, _ => ⟨_, rfl, rfl, rfl⟩
  | .bl _, _ => ⟨_, rfl, rfl, rfl⟩
  | .int _, _ => ⟨_, rfl, rfl, rfl⟩
  | .str _, h => ⟨_, rfl, h, rfl⟩
  | .tup xs, h => by
    obtain ⟨ps, h1, h2, h3⟩ := okEs_py (show okEs xs = true from by unfold okE at h; exact h)
    refine ⟨.tuple ps, by unfold toPy; rw [h1]; rfl, h2, ?_⟩
    unfold depE PyData.depth
    rw [h3]
  | .lst xs, h => by
    obtain ⟨ps, h1, h2, h3⟩ := okEs_py (show okEs xs = true from by unfold okE at h; exact h)
    refine ⟨.list ps, by unfold toPy; rw [h1]; rfl, h2, ?_⟩
    unfold depE PyData.depth
    rw [h3]
  | .dic _ _, h => by cases h
  | .ins _ _ _, h => by cases h
  | .ref _, h => by cases h
  | .cls _, h => by cases h
  | .cst _, h => by cases h
  | .ty _, h => by cases h
  | .scr, h => by cases h
theorem okEs_py : ∀ {x : List D}, okEs x = true → ∃ p, toPys x = some p ∧ PyData.canLayAll0 p = true ∧ PyData.depthAll p = depEs x
  | [], _ => ⟨_, rfl, rfl, rfl⟩
  | x :: xs, h => by
    unfold okEs at h
    obtain ⟨h1, h2⟩ := He.ba h
    obtain ⟨p, a1, a2, a3⟩ := okE_py h1
    obtain ⟨ps, b1, b2, b3⟩ := okEs_py h2
    refine ⟨p :: ps, by unfold toPys; rw [a1, b1]; rfl, ?_, ?_⟩
    · show (PyData.canLay0 p && PyData.canLayAll0 ps) = true
      rw [a2, b2]; rfl
    · unfold depEs PyData.depthAll
      rw [a3, b3]
end
theorem eqP_of {s : S} {x y : D} (vx : viewD s x = x) (vy : viewD s y = y) (hx : okE x = true) (hy : okE y = true) (dx : depE x ≤ 64) (dy : depE y ≤ 64) (m : noMix x y = true) : ∃ b, eqP s x y = some b ∧ (b = true ↔ x = y) := by
  obtain ⟨p, a1, a2, a3⟩ := okE_py hx
  obtain ⟨q, b1, b2, b3⟩ := okE_py hy
  refine ⟨PyData.eqv p q, ?_, eqv_iff a1 b1 m⟩
  unfold eqP
  rw [vx, vy, a1, b1]
  simp only
  rw [if_pos]
  refine ⟨?_, ?_⟩
  · show (p.canLay0 && decide (p.depth ≤ 64)) = true
    rw [a2, a3, decide_eq_true dx]; rfl
  · show (q.canLay0 && decide (q.depth ≤ 64)) = true
    rw [b2, b3, decide_eq_true dy]; rfl
theorem eqD_tup {s : S} {xs : List D} {y : D} (vy : viewD s y = y) (hx : okEs xs = true) (hy : okE y = true) (dx : depEs xs ≤ 63) (dy : depE y ≤ 64) (m : noMix (.tup xs) y = true) : ∃ b, eqD (.tup xs) y s = some (.bl b) ∧ (b = true ↔ .tup xs = y) := by
  obtain ⟨b, h1, h2⟩ := eqP_of (s := s) (x := .tup xs) rfl vy (by unfold okE; exact hx) hy (by unfold depE; omega) dy m
  refine ⟨b, ?_, h2⟩
  have e : eqS (.tup xs) y = none := rfl
  show (eqB s (.tup xs) y).map D.bl = _
  unfold eqB
  rw [e]
  simp only
  rw [h1]; rfl
end DL
namespace DL
open PySem L2
section
variable {s : S} {Q : D → S → Prop} {E : Ex → S → Prop}
theorem strOk_name {z : Str} (h : isName z = true) : PyData.strOk z = true := by
  obtain ⟨_, h2⟩ := isName_iff.mp h
  unfold PyData.strOk
  rw [Array.all_eq_true']
  intro c hc
  have h3 : ∀ c ∈ letters, c < 0x110000 := by decide +kernel
  exact decide_eq_true (h3 c (h2 c (by simpa using hc)))
def ruleL : List Str := ["place", "key", "store", "stopped", "fits", "misfit", "compare", "unlike", "unready", "again"]
def chL : List (List Str) := [["here", "each", "near", "nowhere"], ["none", "class", "arguments", "both"], ["ahead", "behind", "late"], ["leave", "drop"], ["any", "kin", "same"], ["anew", "refuse"], ["never", "public", "asked"], ["anew", "refuse"], ["give", "refuse", "anew"], ["yes", "no"]]
def isChD (chs : List Str) : D → Bool
  | .str z => decide (z ∈ chs)
  | _ => false
theorem is_choice_wp {r : Str} {chs : List Str} {d : D} (h : t_CHOICES.lookup r = some (.tup (chs.map .str))) (hf : flat d = true) (q : Q (.bl (isChD chs d)) s) : d_is_choice [.str r, d] s Q E := by
  unfold d_is_choice b_is_choice
  cases d with
  | str z =>
    simp -implicitDefEqProofs only [word_snoc, DL.runs_D14, DL.runs_D15, DL.runs_D16, DL.runs_D17, DL.runs_D19, DL.runs_D20, DL.runs_D23, DL.runs_D24, DL.runs_D25, DL.runs_D26, DL.runs_D31, DL.runs_D34, DL.runs_D36, DL.runs_D38, DL.runs_D43, DL.runs_D45, DL.runs_mir, DL.runs_sp_exec, Nat.reduceSub, Nat.reduceAdd, h, inB_strs]
    exact q
  | non => simp -implicitDefEqProofs only [word_snoc, DL.runs_D14, DL.runs_D15, DL.runs_D16, DL.runs_D17, DL.runs_D19, DL.runs_D20, DL.runs_D23, DL.runs_D24, DL.runs_D25, DL.runs_D26, DL.runs_D31, DL.runs_D34, DL.runs_D36, DL.runs_D38, DL.runs_D43, DL.runs_D45, DL.runs_mir, DL.runs_sp_exec, Nat.reduceSub, Nat.reduceAdd]; exact q
  | bl b => simp -implicitDefEqProofs only [word_snoc, DL.runs_D14, DL.runs_D15, DL.runs_D16, DL.runs_D17, DL.runs_D19, DL.runs_D20, DL.runs_D23, DL.runs_D24, DL.runs_D25, DL.runs_D26, DL.runs_D31, DL.runs_D34, DL.runs_D36, DL.runs_D38, DL.runs_D43, DL.runs_D45, DL.runs_mir, DL.runs_sp_exec, Nat.reduceSub, Nat.reduceAdd]; exact q
  | int b => simp -implicitDefEqProofs only [word_snoc, DL.runs_D14, DL.runs_D15, DL.runs_D16, DL.runs_D17, DL.runs_D19, DL.runs_D20, DL.runs_D23, DL.runs_D24, DL.runs_D25, DL.runs_D26, DL.runs_D31, DL.runs_D34, DL.runs_D36, DL.runs_D38, DL.runs_D43, DL.runs_D45, DL.runs_mir, DL.runs_sp_exec, Nat.reduceSub, Nat.reduceAdd]; exact q
  | tup b => simp -implicitDefEqProofs only [word_snoc, DL.runs_D14, DL.runs_D15, DL.runs_D16, DL.runs_D17, DL.runs_D19, DL.runs_D20, DL.runs_D23, DL.runs_D24, DL.runs_D25, DL.runs_D26, DL.runs_D31, DL.runs_D34, DL.runs_D36, DL.runs_D38, DL.runs_D43, DL.runs_D45, DL.runs_mir, DL.runs_sp_exec, Nat.reduceSub, Nat.reduceAdd]; exact q
  | lst b => simp -implicitDefEqProofs only [word_snoc, DL.runs_D14, DL.runs_D15, DL.runs_D16, DL.runs_D17, DL.runs_D19, DL.runs_D20, DL.runs_D23, DL.runs_D24, DL.runs_D25, DL.runs_D26, DL.runs_D31, DL.runs_D34, DL.runs_D36, DL.runs_D38, DL.runs_D43, DL.runs_D45, DL.runs_mir, DL.runs_sp_exec, Nat.reduceSub, Nat.reduceAdd]; exact q
  | _ => cases hf
end
end DL
namespace DL
open PySem L2
section
variable {s : S} {Q : D → S → Prop} {E : Ex → S → Prop}
inductive Chs : List (Str × Str) → Prop where
  | nil : Chs []
  | cons {r c : Str} {ps : List (Str × Str)} (chs : List Str) (h1 : t_CHOICES.lookup r = some (.tup (chs.map .str))) (h2 : c ∈ chs) (h3 : c.length ≤ sizeLine) (h : Chs ps) : Chs ((r, c) :: ps)
theorem loop_choices {nv : Env → MS} {QF : Fl → S → Prop} {EE : Ex × Env → S → Prop} {x0 x1 x2 x3 x4 x5 x6 x7 x8 x9 x10 x11 : Option D} : ∀ {ps : List (Str × Str)} {o1 o2 : Option D}, Chs ps → (∀ o1 o2, QF (.nx [x0, x1, x2, x3, x4, x5, x6, x7, x8, x9, x10, x11, o1, o2]) s) →
    loopS (fun _ => True) (toTup 2 (toCons (toName 12) (toCons (toName 13) toNil))) (ifS (notT (liftT (callE f_is_choice_2 (argsC (var 12) (argsC (var 13) argsN)) argsN))) nv nilS) (ps.map fun p => .tup [.str p.1, .str p.2]) [x0, x1, x2, x3, x4, x5, x6, x7, x8, x9, x10, x11, o1, o2] s QF EE
  | _, o1, o2, .nil, q => ⟨trivial, q _ _⟩
  | _, o1, o2, .cons (r := r) (c := c) (ps := ps) chs h1 h2 h3 h, q => by
    rw [List.map_cons, x_loop_cons]
    refine ⟨trivial, _, rfl, ?_⟩
    simp -implicitDefEqProofs only [word_snoc, DL.runs_D14, DL.runs_D15, DL.runs_D16, DL.runs_D17, DL.runs_D19, DL.runs_D20, DL.runs_D23, DL.runs_D24, DL.runs_D25, DL.runs_D26, DL.runs_D31, DL.runs_D34, DL.runs_D36, DL.runs_D38, DL.runs_D43, DL.runs_D45, DL.runs_mir, DL.runs_sp_exec, Nat.reduceSub, Nat.reduceAdd]
    refine is_choice_wp h1 (decide_eq_true h3) ?_
    simp -implicitDefEqProofs only [word_snoc, DL.runs_D14, DL.runs_D15, DL.runs_D16, DL.runs_D17, DL.runs_D19, DL.runs_D20, DL.runs_D23, DL.runs_D24, DL.runs_D25, DL.runs_D26, DL.runs_D31, DL.runs_D34, DL.runs_D36, DL.runs_D38, DL.runs_D43, DL.runs_D45, DL.runs_mir, DL.runs_sp_exec, isChD, h2, decide_true]
    exact loop_choices h q
structure MkD where
  place : Str
  key : Str
  store : Str
  stopped : Str
  fits : Str
  misfit : Str
  compare : Str
  unlike : Str
  unready : Str
  again : Str
deriving DecidableEq
def MkD.list (m : MkD) : List Str := [m.place, m.key, m.store, m.stopped, m.fits, m.misfit, m.compare, m.unlike, m.unready, m.again]
def MkD.ins (m : MkD) : D := .ins "Maker" ["place", "key", "store", "stopped", "fits", "misfit", "compare", "unlike", "unready", "again"] [.str m.place, .str m.key, .str m.store, .str m.stopped, .str m.fits, .str m.misfit, .str m.compare, .str m.unlike, .str m.unready, .str m.again]
def MkD.row (m : MkD) : D := .tup (m.list.map .str)
def MkD.Good (m : MkD) : Prop := Chs (ruleL.zip m.list)
theorem Maker_init_wp {a : Addr} {m : MkD} (g : m.Good)
    (q : Q .non (s.set a (.ins "Maker" ([("place", .str m.place), ("key", .str m.key), ("store", .str m.store), ("stopped", .str m.stopped), ("fits", .str m.fits), ("misfit", .str m.misfit), ("compare", .str m.compare), ("unlike", .str m.unlike), ("unready", .str m.unready), ("again", .str m.again)] : List (Str × D))))) :
    d_Maker_init [.ref a, .str m.place, .str m.key, .str m.store, .str m.stopped, .str m.fits, .str m.misfit, .str m.compare, .str m.unlike, .str m.unready, .str m.again] (s.set a (.ins "Maker" [])) Q E := by
  unfold d_Maker_init b_Maker_init
  have hz : ∀ s, zipSrc s [cc_Maker_RULES, .tup [.str m.place, .str m.key, .str m.store, .str m.stopped, .str m.fits, .str m.misfit, .str m.compare, .str m.unlike, .str m.unready, .str m.again]] = some ⟨(ruleL.zip m.list).map fun p => .tup [.str p.1, .str p.2], fun _ => True⟩ := fun _ => rfl
  simp -implicitDefEqProofs only [word_snoc, DL.runs_D14, DL.runs_D15, DL.runs_D16, DL.runs_D17, DL.runs_D19, DL.runs_D20, DL.runs_D23, DL.runs_D24, DL.runs_D25, DL.runs_D26, DL.runs_D31, DL.runs_D34, DL.runs_D36, DL.runs_D38, DL.runs_D43, DL.runs_D45, DL.runs_mir, DL.runs_sp_exec, Nat.reduceSub, Nat.reduceAdd, Nat.reduceLT, true_and, hz]
  refine loop_choices g fun o1 o2 => ?_
  simp -implicitDefEqProofs only [word_snoc, DL.runs_D14, DL.runs_D15, DL.runs_D16, DL.runs_D17, DL.runs_D19, DL.runs_D20, DL.runs_D23, DL.runs_D24, DL.runs_D25, DL.runs_D26, DL.runs_D31, DL.runs_D34, DL.runs_D36, DL.runs_D38, DL.runs_D43, DL.runs_D45, DL.runs_mir, DL.runs_sp_exec, Nat.reduceSub, Nat.reduceAdd, Nat.reduceLT, true_and]
  exact q
theorem Maker_written_wp {m : MkD} (q : Q m.row s) : d_Maker_written [m.ins] s Q E := by
  unfold d_Maker_written b_Maker_written MkD.ins
  simp -implicitDefEqProofs only [word_snoc, DL.runs_D14, DL.runs_D15, DL.runs_D16, DL.runs_D17, DL.runs_D19, DL.runs_D20, DL.runs_D23, DL.runs_D24, DL.runs_D25, DL.runs_D26, DL.runs_D31, DL.runs_D34, DL.runs_D36, DL.runs_D38, DL.runs_D43, DL.runs_D45, DL.runs_mir, DL.runs_sp_exec, Nat.reduceSub, Nat.reduceAdd, Nat.reduceLT, true_and]
  exact q
theorem okEs_strs : ∀ {cs : List Str}, okEs (cs.map .str) = true ↔ ∀ c ∈ cs, PyData.strOk c = true
  | [] => ⟨fun _ _ h => (by cases h), fun _ => rfl⟩
  | c :: cs => by
    show (PyData.strOk c && okEs (cs.map .str)) = true ↔ _
    rw [Bool.and_eq_true, okEs_strs]
    simp
theorem t_ok : ∀ p ∈ t_CHOICES, okE p.2 = true := by decide +kernel
theorem Chs.ok : ∀ {ps : List (Str × Str)}, Chs ps → ∀ p ∈ ps, PyData.strOk p.2 = true
  | _, .nil, _, h => by cases h
  | _, .cons chs h1 h2 h3 h, p, hp => by
    rcases List.mem_cons.mp hp with rfl | hp
    · have := t_ok _ (lookup_mem h1)
      unfold okE at this
      exact okEs_strs.mp this _ h2
    · exact h.ok p hp
theorem MkD.ok {m : MkD} (g : m.Good) : okEs (m.list.map .str) = true := okEs_strs.mpr fun c hc => by
  have hl : ruleL.length = m.list.length := rfl
  obtain ⟨i, hi, rfl⟩ := List.getElem_of_mem hc
  have h2 : (ruleL[i]'(hl ▸ hi), m.list[i]) ∈ ruleL.zip m.list := by
    rw [List.mem_iff_getElem]
    refine ⟨i, by simp [hl]; exact hi, ?_⟩
    rw [List.getElem_zip]
    rfl
  exact Chs.ok g _ h2
theorem dep_strs : ∀ {cs : List Str}, depEs (cs.map .str) = 0
  | [] => rfl
  | c :: cs => by
    show max 0 (depEs (cs.map .str)) = 0
    rw [dep_strs]; rfl
theorem mix_strs : ∀ {cs ds : List Str}, noMixs (cs.map .str) (ds.map .str) = true
  | [], ds => by cases ds <;> rfl
  | _ :: _, [] => rfl
  | c :: cs, d :: ds => by
    show (true && noMixs (cs.map .str) (ds.map .str)) = true
    rw [mix_strs]; rfl
end
end DL
namespace DL
open PySem L2
section
variable {s : S} {Q : D → S → Prop} {E : Ex → S → Prop}
def kindAt (ks : List KD) (nm : Str) : Option KD := ks.find? fun k => decide (k.name = nm)
theorem ints_eq {n : Nat} : intsD 0 n = (List.range n).map fun i : Nat => D.int (i : Int) := by
  unfold intsD
  refine List.map_congr_left fun i _ => ?_
  simp
structure FamGood (ks : List KD) : Prop where
  most : ks.length ≤ 16
  good : ∀ k ∈ ks, k.Good
  once : ∀ i (h : i < ks.length), kindAt (ks.take i) ks[i].name = none
  base : ∀ i (h : i < ks.length) b, ks[i].base = some b → kindAt (ks.take i) b ≠ none
end
end DL
namespace DL
open PySem L2
section
variable {s : S} {Q : D → S → Prop} {E : Ex → S → Prop}
theorem x_iterET {as : Env → M Ex (List D)} {ρ : Env} {s : S} {QI : Src → S → Prop} {E : Ex → S → Prop} : iterET as ρ s QI E = as ρ s (fun ds s1 => ∃ v, ((one ds).bind fun d => (tupOf d).bind fun xs => if xs.length ≤ sizeLine then some (⟨enumD xs, fun _ => True⟩ : Src) else none) = some v ∧ QI v s1) E := rfl
theorem one_one {d : D} : one [d] = some d := rfl
theorem sl_tup {xs : List D} {lo hi : Option Int} : slD (.tup xs) lo hi = some (.tup (cutD xs lo hi)) := rfl
theorem ite_src {xs ys : List D} {P : S → Prop} (h : xs.length ≤ sizeLine) : (if xs.length ≤ sizeLine then some (⟨ys, P⟩ : Src) else none) = some ⟨ys, P⟩ := if_pos h
theorem seq_lst {xs : List D} {s : S} : seqD s (.lst xs) = some xs := rfl
theorem seq_tup {xs : List D} {s : S} : seqD s (.tup xs) = some xs := rfl
end
end DL
namespace DL
def runs_sp_fam2 := And.intro @x_iterET (And.intro @one_one (And.intro @sl_tup (And.intro @seq_lst (@seq_tup))))
end DL
namespace DL
open PySem L2
section
variable {s : S} {Q : D → S → Prop} {E : Ex → S → Prop}
def rcs : List (Str × List Str) := ruleL.zip chL
def tableD : D := .lst (rcs.map fun p => .tup [.str p.1, .tup (p.2.map .str)])
theorem table_wp (q : Q tableD s) : d_table [] s Q E := by
  unfold d_table b_table
  simp -implicitDefEqProofs -failIfUnchanged only [word_snoc, DL.runs_D14, DL.runs_D15, DL.runs_D16, DL.runs_D17, DL.runs_D19, DL.runs_D20, DL.runs_D23, DL.runs_D24, DL.runs_D25, DL.runs_D26, DL.runs_D31, DL.runs_D34, DL.runs_D36, DL.runs_D38, DL.runs_D43, DL.runs_D45, DL.runs_mir, DL.runs_sp_exec, DL.runs_sp_fam2, Nat.reduceSub, Nat.reduceAdd, Nat.reduceLT, true_and]
  exact q
theorem ix_strs {cs : List Str} {v : Int} (h0 : 0 ≤ v) (h1 : v < cs.length) : ∃ c, c ∈ cs ∧ ixD (.tup (cs.map .str)) (.int v) s = some (.str c) := by
  obtain ⟨d, h2, h3⟩ := atI_pos (xs := cs.map D.str) h0 (by simpa using h1)
  obtain ⟨c, hc, rfl⟩ := List.mem_map.mp h3
  exact ⟨c, hc, h2⟩
theorem mk_of_list {cs : List (Str × Str)} (h : cs.map (·.1) = ruleL) : ∃ m : MkD, cs = ruleL.zip m.list := by
  match cs, h with
  | [⟨a0, b0⟩, ⟨a1, b1⟩, ⟨a2, b2⟩, ⟨a3, b3⟩, ⟨a4, b4⟩, ⟨a5, b5⟩, ⟨a6, b6⟩, ⟨a7, b7⟩, ⟨a8, b8⟩, ⟨a9, b9⟩], h =>
    refine ⟨⟨b0, b1, b2, b3, b4, b5, b6, b7, b8, b9⟩, ?_⟩
    simp only [List.map_cons, List.map_nil, ruleL, List.cons.injEq] at h
    obtain ⟨rfl, rfl, rfl, rfl, rfl, rfl, rfl, rfl, rfl, rfl, _⟩ := h
    rfl
structure RcOk (p : Str × List Str) : Prop where
  at_ : t_CHOICES.lookup p.1 = some (.tup (p.2.map .str))
  some_ : 0 < p.2.length
  few : p.2.length < 10
  short : ∀ c ∈ p.2, c.length ≤ sizeLine
theorem rcs_ok : ∀ p ∈ rcs, RcOk p := by
  intro p hp
  have h : ∀ p ∈ rcs, 0 < p.2.length ∧ p.2.length < 10 ∧ ∀ c ∈ p.2, c.length ≤ sizeLine := by decide +kernel
  have h2 : ∀ p ∈ rcs, (match t_CHOICES.lookup p.1 with | some (.tup xs) => decide (strsOf xs = some p.2) | _ => false) = true := by decide +kernel
  obtain ⟨h3, h4, h5⟩ := h p hp
  refine ⟨?_, h3, h4, h5⟩
  have h6 := h2 p hp
  split at h6
  · rename_i xs e
    rw [e]
    have h7 : strsOf xs = some p.2 := of_decide_eq_true h6
    have : ∀ (xs : List D) (ys : List Str), strsOf xs = some ys → xs = ys.map .str := by
      intro xs
      induction xs with
      | nil => intro ys h; cases h; rfl
      | cons x r ih =>
        intro ys h
        cases x with
        | str z =>
          obtain ⟨ys', h8, rfl⟩ := Option.map_eq_some_iff.mp (show (strsOf r).map (fun r => z :: r) = some ys from h)
          rw [ih _ h8]; rfl
        | _ => cases h
    rw [this _ _ h7]
  · cases h6
theorem put_new {kvs : List (Key × D)} {k : Key} {v : D} (h : k ∉ kvs.map (·.1)) : putKD kvs k v = kvs ++ [(k, v)] := by
  unfold putKD
  rw [if_neg]
  intro h2
  obtain ⟨kv, h3, h4⟩ := List.any_eq_true.mp h2
  exact h (List.mem_map.mpr ⟨kv, h3, of_decide_eq_true h4⟩)
def strKV (acc : List (Str × Str)) : List (Key × D) := acc.map fun p => (.inr p.1, .str p.2)
theorem strKV_keys (acc : List (Str × Str)) : (strKV acc).map (·.1) = acc.map fun p => .inr p.1 := by simp [strKV]
theorem rules_loop {QF : Fl → S → Prop} {EE : Ex × Env → S → Prop} {a b c : Addr} (hb : s.map b = some (.bag c)) (ha : s.map a = none) : ∀ {ps : List (Str × List Str)} {acc : List (Str × Str)} {o : Option D}, (acc.map (·.1) ++ ps.map (·.1)).Nodup → acc.length + ps.length ≤ 100 → (∀ p ∈ ps, RcOk p) → Chs acc →
    (∀ cs o', Chs cs → cs.map (·.1) = acc.map (·.1) ++ ps.map (·.1) → QF (.nx [some (.ref b), some (.ref a), o']) (s.set a (.dic (strKV cs)))) →
    loopS (fun _ => True) (toName 2) (keyS (var 1) (op2 ixD (var 2) (cst (.int 0))) (op2 ixD (op2 ixD (var 2) (cst (.int 1))) (callE f_draw_2 (argsC (var 0) (argsC (prim lenD (argsC (op2 ixD (var 2) (cst (.int 1))) argsN)) argsN)) argsN))) (ps.map fun p => .tup [.str p.1, .tup (p.2.map .str)]) [some (.ref b), some (.ref a), o] (s.set a (.dic (strKV acc))) QF EE
  | [], acc, o, _, _, _, hc, q => ⟨trivial, q acc o hc (by simp)⟩
  | p :: ps, acc, o, nd, hl, hp, hc, q => by
    rw [List.map_cons, x_loop_cons]
    refine ⟨trivial, _, rfl, ?_⟩
    have k := hp p List.mem_cons_self
    simp -implicitDefEqProofs -failIfUnchanged only [word_snoc, DL.runs_D14, DL.runs_D15, DL.runs_D16, DL.runs_D17, DL.runs_D19, DL.runs_D20, DL.runs_D23, DL.runs_D24, DL.runs_D25, DL.runs_D26, DL.runs_D31, DL.runs_D34, DL.runs_D36, DL.runs_D38, DL.runs_D43, DL.runs_D45, DL.runs_mir, DL.runs_sp_exec, DL.runs_sp_fam2, Nat.reduceSub, Nat.reduceAdd, Nat.reduceLT, true_and]
    refine draw_wp (map_keep hb ha) (by have := k.some_; simp; omega) (by have := k.few; simp; omega) fun v v0 v1 => ?_
    obtain ⟨x, h3, h4⟩ := ix_strs (s := s.set a (.dic (strKV acc))) (cs := p.2) v0 (by simpa using v1)
    simp -implicitDefEqProofs -failIfUnchanged only [word_snoc, DL.runs_D14, DL.runs_D15, DL.runs_D16, DL.runs_D17, DL.runs_D19, DL.runs_D20, DL.runs_D23, DL.runs_D24, DL.runs_D25, DL.runs_D26, DL.runs_D31, DL.runs_D34, DL.runs_D36, DL.runs_D38, DL.runs_D43, DL.runs_D45, DL.runs_mir, DL.runs_sp_exec, DL.runs_sp_fam2, Nat.reduceSub, Nat.reduceAdd, Nat.reduceLT, true_and, h4]
    refine ⟨lt_sz (by simp [strKV] at *; omega), ?_⟩
    have hk : (Sum.inr p.1 : Key) ∉ (strKV acc).map (·.1) := by
      rw [strKV_keys]
      intro h
      obtain ⟨q2, h5, h6⟩ := List.mem_map.mp h
      have h7 : q2.1 = p.1 := Sum.inr.inj h6
      have := (List.nodup_append.mp nd).2.2
      exact this _ (List.mem_map.mpr ⟨q2, h5, rfl⟩) _ (by simp) h7
    rw [put_new hk]
    have e : strKV acc ++ [(Sum.inr p.1, D.str x)] = strKV (acc ++ [(p.1, x)]) := by simp [strKV]
    rw [e]
    have app : ∀ {acc : List (Str × Str)} {y : Str × Str}, Chs acc → Chs [y] → Chs (acc ++ [y]) := by
      intro acc y h1 h2
      induction h1 with
      | nil => exact h2
      | cons chs h3 h4 h5 h6 ih => exact .cons chs h3 h4 h5 ih
    refine rules_loop hb ha (by simpa using nd) (by simp at hl ⊢; omega) (fun z hz => hp z (List.mem_cons_of_mem _ hz)) (app hc (.cons p.2 k.at_ h3 (k.short _ h3) .nil)) fun cs o' h5 h6 => q cs o' h5 (by simpa using h6)
end
end DL
namespace DL
open PySem L2
section
variable {s : S} {Q : D → S → Prop} {E : Ex → S → Prop}
theorem rcs_fst {i : Nat} (h : i < rcs.length) (h2 : i < 10) : (rcs[i]'h).1 = ruleL[i]'h2 := by
  match i, h, h2 with
  | 0, _, _ => rfl
  | 1, _, _ => rfl
  | 2, _, _ => rfl
  | 3, _, _ => rfl
  | 4, _, _ => rfl
  | 5, _, _ => rfl
  | 6, _, _ => rfl
  | 7, _, _ => rfl
  | 8, _, _ => rfl
  | 9, _, _ => rfl
theorem inL_strs {z : Str} {cs : List Str} : inD (.str z) (.lst (cs.map .str)) s = some (.bl (decide (z ∈ cs))) := inB_strs (s := s) (cs := cs)
end
end DL
namespace DL
open PySem L2
section
variable {s : S} {Q : D → S → Prop} {E : Ex → S → Prop}
theorem kindAt_none {ks : List KD} {nm : Str} : kindAt ks nm = none ↔ nm ∉ ks.map KD.name := by
  unfold kindAt
  rw [List.find?_eq_none]
  simp only [decide_eq_true_eq, List.mem_map, not_exists, not_and]
theorem FamGood.nil : FamGood [] := ⟨by decide, (fun _ h => by cases h), fun i h => absurd h (Nat.not_lt_zero i), fun i h => absurd h (Nat.not_lt_zero i)⟩
end
end DL
namespace DL
open PySem L2
section
variable {s : S} {P : S → Prop} {f : D → Env → Option Env} {p : Env → MS} {QF : Fl → S → Prop} {EE : Ex × Env → S → Prop}
theorem loop_test {α : Type} [MB p] (el : α → D) (R : Env → Prop) (k : α → Bool) (r : α → D) : ∀ (xs : List α) (ρ : Env), P s → R ρ →
    (∀ x ∈ xs, ∀ ρ, R ρ → ∃ ρ1, f (el x) ρ = some ρ1 ∧ p ρ1 s (fun fl s' => s' = s ∧ ((k x = true ∧ ∃ ρ', fl = .nx ρ' ∧ R ρ') ∨ (k x = false ∧ fl = .rt (r x)))) (fun _ _ => False)) →
    ((∀ x ∈ xs, k x = true) → ∀ ρ, R ρ → QF (.nx ρ) s) → (∀ x, xs.find? (fun y => !k y) = some x → QF (.rt (r x)) s) → loopS P f p (xs.map el) ρ s QF EE
  | [], ρ, hP, h0, _, q1, _ => ⟨hP, q1 (fun _ h => by cases h) ρ h0⟩
  | x :: xs, ρ, hP, h0, h, q1, q2 => by
    rw [List.map_cons, x_loop_cons]
    obtain ⟨ρ1, h1, h2⟩ := h x List.mem_cons_self ρ h0
    refine ⟨hP, ρ1, h1, MB.mono ρ1 _ _ _ _ _ (fun fl s' z => ?_) (fun _ _ z => z.elim) h2⟩
    obtain ⟨es, ⟨hk, ρ', rfl, hR⟩ | ⟨hk, rfl⟩⟩ := z
    · rw [x_turn_nx, es]
      refine loop_test el R k r xs ρ' hP hR (fun y hy => h y (List.mem_cons_of_mem _ hy)) (fun ha => q1 fun y hy => ?_) fun y hy => q2 y ?_
      · rcases List.mem_cons.mp hy with rfl | hy
        · exact hk
        · exact ha y hy
      · rw [List.find?_cons_of_neg (by rw [hk]; decide)]; exact hy
    · rw [x_turn_rt, es]
      exact q2 x (List.find?_cons_of_pos (by rw [hk]; rfl))
theorem loop_all {α : Type} [MB p] (el : α → D) (R : Env → Prop) (xs : List α) (ρ : Env) (hP : P s) (h0 : R ρ)
    (h : ∀ x ∈ xs, ∀ ρ, R ρ → ∃ ρ1, f (el x) ρ = some ρ1 ∧ p ρ1 s (fun fl s' => s' = s ∧ ∃ ρ', fl = .nx ρ' ∧ R ρ') (fun _ _ => False)) (q : ∀ ρ, R ρ → QF (.nx ρ) s) : loopS P f p (xs.map el) ρ s QF EE := by
  refine loop_test el R (fun _ => true) (fun _ => .non) xs ρ hP h0 (fun x hx ρ hR => ?_) (fun _ => q) fun x hx => ?_
  · obtain ⟨ρ1, h1, h2⟩ := h x hx ρ hR
    exact ⟨ρ1, h1, MB.mono ρ1 _ _ _ _ _ (fun fl s' z => ⟨z.1, .inl ⟨rfl, z.2⟩⟩) (fun _ _ z => z) h2⟩
  · have := List.find?_some hx
    cases this
theorem lc_any {α : Type} {t : Env → M Ex Bool} {m : Env → M Ex D} [MB t] [MB m] {ρ : Env} {QL : List D → S → Prop} {E : Ex → S → Prop} (el : α → D) (G : D → Prop) (hP : P s) : ∀ (xs : List α) (acc : List D),
    (∀ x ∈ xs, ∃ ρ1, f (el x) ρ = some ρ1 ∧ t ρ1 s (fun k s1 => k = true ∧ s1 = s) (fun _ _ => False) ∧ m ρ1 s (fun y s1 => G y ∧ s1 = s) (fun _ _ => False)) →
    (∀ ys : List D, ys.length = xs.length → (∀ y ∈ ys, G y) → QL (acc ++ ys) s) → lcLoop P f t m ρ (xs.map el) acc s QL E
  | [], acc, _, q => ⟨hP, by have := q [] rfl (fun _ h => by cases h); rwa [List.append_nil] at this⟩
  | x :: xs, acc, h, q => by
    obtain ⟨ρ1, h1, h2, h3⟩ := h x List.mem_cons_self
    rw [List.map_cons, x_lc_cons]
    refine ⟨hP, ρ1, h1, MB.mono ρ1 _ _ _ _ _ (fun k s1 z => ?_) (fun _ _ z => z) h2⟩
    obtain ⟨z1, z2⟩ := z
    rw [z1, z2, selB_t]
    refine MB.mono ρ1 _ _ _ _ _ (fun y s1 z => ?_) (fun _ _ z => z) h3
    obtain ⟨z1, z2⟩ := z
    rw [z2]
    refine lc_any el G hP xs _ (fun y hy => h y (List.mem_cons_of_mem _ hy)) fun ys hl hy => ?_
    have := q (y :: ys) (by rw [List.length_cons, List.length_cons, hl]) (fun w hw => by
      rcases List.mem_cons.mp hw with rfl | hw
      · exact z1
      · exact hy w hw)
    rwa [List.append_cons] at this
end
end DL
namespace DL
open PySem L2
section
variable {s : S} {Q : D → S → Prop} {E : Ex → S → Prop} {cs : List Str}
theorem isiT_non : isiTs cs ["tuple", "list"] s .non = some false := rfl
theorem isiT_bl {b : Bool} : isiTs cs ["tuple", "list"] s (.bl b) = some false := rfl
theorem isiT_int {i : Int} : isiTs cs ["tuple", "list"] s (.int i) = some false := rfl
theorem isiT_str {z : Str} : isiTs cs ["tuple", "list"] s (.str z) = some false := rfl
theorem isiT_tup {xs : List D} : isiTs cs ["tuple", "list"] s (.tup xs) = some true := rfl
theorem isiT_lst {xs : List D} : isiTs cs ["tuple", "list"] s (.lst xs) = some true := rfl
theorem lt_sz0 : (0 < sizeLine) = True := eq_true (by decide)
theorem lt_sz1 : (1 < sizeLine) = True := eq_true (by decide)
theorem lt_sz2 : (2 < sizeLine) = True := eq_true (by decide)
theorem lt_sz3 : (3 < sizeLine) = True := eq_true (by decide)
theorem lt_sz4 : (4 < sizeLine) = True := eq_true (by decide)
theorem lt_sz5 : (5 < sizeLine) = True := eq_true (by decide)
theorem lt_sz6 : (6 < sizeLine) = True := eq_true (by decide)
theorem lt_sz7 : (7 < sizeLine) = True := eq_true (by decide)
theorem lt_sz8 : (8 < sizeLine) = True := eq_true (by decide)
theorem lt_sz9 : (9 < sizeLine) = True := eq_true (by decide)
theorem lt_sz10 : (10 < sizeLine) = True := eq_true (by decide)
theorem lt_sz11 : (11 < sizeLine) = True := eq_true (by decide)
theorem lt_sz12 : (12 < sizeLine) = True := eq_true (by decide)
theorem lt_sz13 : (13 < sizeLine) = True := eq_true (by decide)
theorem lt_sz14 : (14 < sizeLine) = True := eq_true (by decide)
theorem lt_sz15 : (15 < sizeLine) = True := eq_true (by decide)
theorem lt_sz16 : (16 < sizeLine) = True := eq_true (by decide)
theorem lt_sz17 : (17 < sizeLine) = True := eq_true (by decide)
theorem lt_sz18 : (18 < sizeLine) = True := eq_true (by decide)
theorem lt_sz19 : (19 < sizeLine) = True := eq_true (by decide)
theorem lt_sz20 : (20 < sizeLine) = True := eq_true (by decide)
def litE : Nat → D → Bool
  | _, .non => true
  | _, .bl _ => true
  | _, .int _ => true
  | _, .str _ => true
  | n + 1, .tup xs => decide (xs.length ≤ 1000000) && xs.all (litE n)
  | n + 1, .lst xs => decide (xs.length ≤ 1000000) && xs.all (litE n)
  | _, _ => false
theorem eq_strs {as bs : List Str} (ha : ∀ c ∈ as, PyData.strOk c = true) (hb : ∀ c ∈ bs, PyData.strOk c = true) : eqD (.tup (as.map .str)) (.tup (bs.map .str)) s = some (.bl (decide (as = bs))) := by
  obtain ⟨b, h1, h2⟩ := eqD_tup (s := s) (xs := as.map .str) (y := .tup (bs.map .str)) rfl (okEs_strs.mpr ha) (by unfold okE; exact okEs_strs.mpr hb) (by rw [dep_strs]; decide) (by unfold depE; rw [dep_strs]; decide) (by unfold noMix; exact mix_strs)
  have e : b = decide (as = bs) := by
    rw [Bool.eq_iff_iff, h2, decide_eq_true_eq]
    refine ⟨fun h => ?_, fun h => by rw [h]⟩
    have h := D.tup.inj h
    exact List.map_inj_right (fun _ _ e => D.str.inj e) |>.mp h
  rw [← e]
  exact h1
end
end DL
namespace DL
def runs_sp_lit := And.intro @isiT_non (And.intro @isiT_bl (And.intro @isiT_int (And.intro @isiT_str (And.intro @isiT_tup (And.intro @isiT_lst (And.intro @lt_sz0 (And.intro @lt_sz1 (And.intro @lt_sz2 (And.intro @lt_sz3 (And.intro @lt_sz4 (And.intro @lt_sz5 (And.intro @lt_sz6 (And.intro @lt_sz7 (And.intro @lt_sz8 (And.intro @lt_sz9 (And.intro @lt_sz10 (And.intro @lt_sz11 (And.intro @lt_sz12 (And.intro @lt_sz13 (And.intro @lt_sz14 (And.intro @lt_sz15 (And.intro @lt_sz16 (And.intro @lt_sz17 (And.intro @lt_sz18 (And.intro @lt_sz19 (@lt_sz20))))))))))))))))))))))))))
end DL
namespace DL
open PySem L2
theorem isNon_bl {b : Bool} : isNon (.bl b) = false := rfl
theorem isNon_int {i : Int} : isNon (.int i) = false := rfl
theorem isNon_lst {xs : List D} : isNon (.lst xs) = false := rfl
theorem whole_int {i : Int} {s : S} {Q : D → S → Prop} {E : Ex → S → Prop} (q : Q (.bl true) s) : d_whole [.int i] s Q E := by
  unfold d_whole b_whole
  simp -implicitDefEqProofs -failIfUnchanged only [word_snoc, DL.runs_D14, DL.runs_D15, DL.runs_D16, DL.runs_D17, DL.runs_D19, DL.runs_D20, DL.runs_D23, DL.runs_D24, DL.runs_D25, DL.runs_D26, DL.runs_D31, DL.runs_D34, DL.runs_D36, DL.runs_D38, DL.runs_D43, DL.runs_D45, DL.runs_mir, DL.runs_sp_exec, DL.runs_sp_fam2, DL.runs_sp_lit, isNon_bl, isNon_int, isNon_lst, Nat.reduceSub, Nat.reduceAdd, Nat.reduceLT, true_and]
  exact q
theorem like_refl : ∀ (n : Nat) {x : D} {s : S} {Q : D → S → Prop} {E : Ex → S → Prop}, litE n x = true → Q (.bl true) s → d_like (n + 1) [x, x] s Q E
  | n, .non, s, Q, E, h, q => by
    show defM 3 (b_like (posF 2 [] (d_like n))) [.non, .non] s Q E
    unfold b_like
    simp -implicitDefEqProofs -failIfUnchanged only [word_snoc, DL.runs_D14, DL.runs_D15, DL.runs_D16, DL.runs_D17, DL.runs_D19, DL.runs_D20, DL.runs_D23, DL.runs_D24, DL.runs_D25, DL.runs_D26, DL.runs_D31, DL.runs_D34, DL.runs_D36, DL.runs_D38, DL.runs_D43, DL.runs_D45, DL.runs_mir, DL.runs_sp_exec, DL.runs_sp_fam2, DL.runs_sp_lit, isNon_bl, isNon_int, isNon_lst, Nat.reduceSub, Nat.reduceAdd, Nat.reduceLT, true_and]
    exact q
  | n, .bl b, s, Q, E, h, q => by
    show defM 3 (b_like (posF 2 [] (d_like n))) [.bl b, .bl b] s Q E
    unfold b_like
    simp -implicitDefEqProofs -failIfUnchanged only [word_snoc, DL.runs_D14, DL.runs_D15, DL.runs_D16, DL.runs_D17, DL.runs_D19, DL.runs_D20, DL.runs_D23, DL.runs_D24, DL.runs_D25, DL.runs_D26, DL.runs_D31, DL.runs_D34, DL.runs_D36, DL.runs_D38, DL.runs_D43, DL.runs_D45, DL.runs_mir, DL.runs_sp_exec, DL.runs_sp_fam2, DL.runs_sp_lit, isNon_bl, isNon_int, isNon_lst, Nat.reduceSub, Nat.reduceAdd, Nat.reduceLT, true_and, decide_true, eq_self]
    exact q
  | n, .int b, s, Q, E, h, q => by
    show defM 3 (b_like (posF 2 [] (d_like n))) [.int b, .int b] s Q E
    unfold b_like
    simp -implicitDefEqProofs -failIfUnchanged only [word_snoc, DL.runs_D14, DL.runs_D15, DL.runs_D16, DL.runs_D17, DL.runs_D19, DL.runs_D20, DL.runs_D23, DL.runs_D24, DL.runs_D25, DL.runs_D26, DL.runs_D31, DL.runs_D34, DL.runs_D36, DL.runs_D38, DL.runs_D43, DL.runs_D45, DL.runs_mir, DL.runs_sp_exec, DL.runs_sp_fam2, DL.runs_sp_lit, isNon_bl, isNon_int, isNon_lst, Nat.reduceSub, Nat.reduceAdd, Nat.reduceLT, true_and, decide_true, eq_self]
    refine whole_int ?_
    simp -implicitDefEqProofs -failIfUnchanged only [word_snoc, DL.runs_D14, DL.runs_D15, DL.runs_D16, DL.runs_D17, DL.runs_D19, DL.runs_D20, DL.runs_D23, DL.runs_D24, DL.runs_D25, DL.runs_D26, DL.runs_D31, DL.runs_D34, DL.runs_D36, DL.runs_D38, DL.runs_D43, DL.runs_D45, DL.runs_mir, DL.runs_sp_exec, DL.runs_sp_fam2, DL.runs_sp_lit, isNon_bl, isNon_int, isNon_lst, Nat.reduceSub, Nat.reduceAdd, Nat.reduceLT, true_and, decide_true, eq_self]
    exact q
  | n, .str b, s, Q, E, h, q => by
    show defM 3 (b_like (posF 2 [] (d_like n))) [.str b, .str b] s Q E
    unfold b_like
    simp -implicitDefEqProofs -failIfUnchanged only [word_snoc, DL.runs_D14, DL.runs_D15, DL.runs_D16, DL.runs_D17, DL.runs_D19, DL.runs_D20, DL.runs_D23, DL.runs_D24, DL.runs_D25, DL.runs_D26, DL.runs_D31, DL.runs_D34, DL.runs_D36, DL.runs_D38, DL.runs_D43, DL.runs_D45, DL.runs_mir, DL.runs_sp_exec, DL.runs_sp_fam2, DL.runs_sp_lit, isNon_bl, isNon_int, isNon_lst, Nat.reduceSub, Nat.reduceAdd, Nat.reduceLT, true_and, decide_true, eq_self]
    exact q
  | n + 1, .tup xs, s, Q, E, h, q => by
    obtain ⟨h1, h2⟩ := He.ba (show (decide (xs.length ≤ 1000000) && xs.all (litE n)) = true from h)
    have h1 := of_decide_eq_true h1
    show defM 3 (b_like (posF 2 [] (d_like (n + 1)))) [.tup xs, .tup xs] s Q E
    unfold b_like
    simp -implicitDefEqProofs -failIfUnchanged only [word_snoc, DL.runs_D14, DL.runs_D15, DL.runs_D16, DL.runs_D17, DL.runs_D19, DL.runs_D20, DL.runs_D23, DL.runs_D24, DL.runs_D25, DL.runs_D26, DL.runs_D31, DL.runs_D34, DL.runs_D36, DL.runs_D38, DL.runs_D43, DL.runs_D45, DL.runs_mir, DL.runs_sp_exec, DL.runs_sp_fam2, DL.runs_sp_lit, isNon_bl, isNon_int, isNon_lst, Nat.reduceSub, Nat.reduceAdd, Nat.reduceLT, true_and, x_seqC, range1_nat (show (0 : Int) ≤ (xs.length : Int) by omega) (show (xs.length : Int) ≤ 1000000 by omega), decide_true, eq_self, Int.toNat_natCast]
    rw [ints_eq]
    refine loop_all (fun i : Nat => D.int (i : Int)) (fun ρ => ∃ o, ρ = [some (.tup xs), some (.tup xs), o]) _ _ trivial ⟨_, rfl⟩ (fun i hi ρ hρ => ?_) fun ρ hρ => ?_
    · obtain ⟨o, rfl⟩ := hρ
      have hi := List.mem_range.mp hi
      have e : atI xs (i : Int) = some xs[i] := by rw [atI_nat hi]; simp
      refine ⟨_, rfl, ?_⟩
      simp -implicitDefEqProofs -failIfUnchanged only [word_snoc, DL.runs_D14, DL.runs_D15, DL.runs_D16, DL.runs_D17, DL.runs_D19, DL.runs_D20, DL.runs_D23, DL.runs_D24, DL.runs_D25, DL.runs_D26, DL.runs_D31, DL.runs_D34, DL.runs_D36, DL.runs_D38, DL.runs_D43, DL.runs_D45, DL.runs_mir, DL.runs_sp_exec, DL.runs_sp_fam2, DL.runs_sp_lit, isNon_bl, isNon_int, isNon_lst, Nat.reduceSub, Nat.reduceAdd, Nat.reduceLT, true_and, e]
      refine like_refl n (List.all_eq_true.mp h2 _ (List.getElem_mem hi)) ?_
      simp -implicitDefEqProofs -failIfUnchanged only [word_snoc, DL.runs_D14, DL.runs_D15, DL.runs_D16, DL.runs_D17, DL.runs_D19, DL.runs_D20, DL.runs_D23, DL.runs_D24, DL.runs_D25, DL.runs_D26, DL.runs_D31, DL.runs_D34, DL.runs_D36, DL.runs_D38, DL.runs_D43, DL.runs_D45, DL.runs_mir, DL.runs_sp_exec, DL.runs_sp_fam2, DL.runs_sp_lit, isNon_bl, isNon_int, isNon_lst, Nat.reduceSub, Nat.reduceAdd, Nat.reduceLT, true_and]
      exact ⟨_, rfl, _, rfl⟩
    · obtain ⟨o, rfl⟩ := hρ
      simp -implicitDefEqProofs -failIfUnchanged only [word_snoc, DL.runs_D14, DL.runs_D15, DL.runs_D16, DL.runs_D17, DL.runs_D19, DL.runs_D20, DL.runs_D23, DL.runs_D24, DL.runs_D25, DL.runs_D26, DL.runs_D31, DL.runs_D34, DL.runs_D36, DL.runs_D38, DL.runs_D43, DL.runs_D45, DL.runs_mir, DL.runs_sp_exec, DL.runs_sp_fam2, DL.runs_sp_lit, isNon_bl, isNon_int, isNon_lst, Nat.reduceSub, Nat.reduceAdd, Nat.reduceLT, true_and]
      exact q
  | n + 1, .lst xs, s, Q, E, h, q => by
    obtain ⟨h1, h2⟩ := He.ba (show (decide (xs.length ≤ 1000000) && xs.all (litE n)) = true from h)
    have h1 := of_decide_eq_true h1
    show defM 3 (b_like (posF 2 [] (d_like (n + 1)))) [.lst xs, .lst xs] s Q E
    unfold b_like
    simp -implicitDefEqProofs -failIfUnchanged only [word_snoc, DL.runs_D14, DL.runs_D15, DL.runs_D16, DL.runs_D17, DL.runs_D19, DL.runs_D20, DL.runs_D23, DL.runs_D24, DL.runs_D25, DL.runs_D26, DL.runs_D31, DL.runs_D34, DL.runs_D36, DL.runs_D38, DL.runs_D43, DL.runs_D45, DL.runs_mir, DL.runs_sp_exec, DL.runs_sp_fam2, DL.runs_sp_lit, isNon_bl, isNon_int, isNon_lst, Nat.reduceSub, Nat.reduceAdd, Nat.reduceLT, true_and, x_seqC, range1_nat (show (0 : Int) ≤ (xs.length : Int) by omega) (show (xs.length : Int) ≤ 1000000 by omega), decide_true, eq_self, Int.toNat_natCast]
    rw [ints_eq]
    refine loop_all (fun i : Nat => D.int (i : Int)) (fun ρ => ∃ o, ρ = [some (.lst xs), some (.lst xs), o]) _ _ trivial ⟨_, rfl⟩ (fun i hi ρ hρ => ?_) fun ρ hρ => ?_
    · obtain ⟨o, rfl⟩ := hρ
      have hi := List.mem_range.mp hi
      have e : atI xs (i : Int) = some xs[i] := by rw [atI_nat hi]; simp
      refine ⟨_, rfl, ?_⟩
      simp -implicitDefEqProofs -failIfUnchanged only [word_snoc, DL.runs_D14, DL.runs_D15, DL.runs_D16, DL.runs_D17, DL.runs_D19, DL.runs_D20, DL.runs_D23, DL.runs_D24, DL.runs_D25, DL.runs_D26, DL.runs_D31, DL.runs_D34, DL.runs_D36, DL.runs_D38, DL.runs_D43, DL.runs_D45, DL.runs_mir, DL.runs_sp_exec, DL.runs_sp_fam2, DL.runs_sp_lit, isNon_bl, isNon_int, isNon_lst, Nat.reduceSub, Nat.reduceAdd, Nat.reduceLT, true_and, e]
      refine like_refl n (List.all_eq_true.mp h2 _ (List.getElem_mem hi)) ?_
      simp -implicitDefEqProofs -failIfUnchanged only [word_snoc, DL.runs_D14, DL.runs_D15, DL.runs_D16, DL.runs_D17, DL.runs_D19, DL.runs_D20, DL.runs_D23, DL.runs_D24, DL.runs_D25, DL.runs_D26, DL.runs_D31, DL.runs_D34, DL.runs_D36, DL.runs_D38, DL.runs_D43, DL.runs_D45, DL.runs_mir, DL.runs_sp_exec, DL.runs_sp_fam2, DL.runs_sp_lit, isNon_bl, isNon_int, isNon_lst, Nat.reduceSub, Nat.reduceAdd, Nat.reduceLT, true_and]
      exact ⟨_, rfl, _, rfl⟩
    · obtain ⟨o, rfl⟩ := hρ
      simp -implicitDefEqProofs -failIfUnchanged only [word_snoc, DL.runs_D14, DL.runs_D15, DL.runs_D16, DL.runs_D17, DL.runs_D19, DL.runs_D20, DL.runs_D23, DL.runs_D24, DL.runs_D25, DL.runs_D26, DL.runs_D31, DL.runs_D34, DL.runs_D36, DL.runs_D38, DL.runs_D43, DL.runs_D45, DL.runs_mir, DL.runs_sp_exec, DL.runs_sp_fam2, DL.runs_sp_lit, isNon_bl, isNon_int, isNon_lst, Nat.reduceSub, Nat.reduceAdd, Nat.reduceLT, true_and]
      exact q
  | 0, .tup xs, _, _, _, h, _ => by cases h
  | 0, .lst xs, _, _, _, h, _ => by cases h
  | n, .dic _ _, _, _, _, h, _ => by cases n <;> cases h
  | n, .ins _ _ _, _, _, _, h, _ => by cases n <;> cases h
  | n, .ref _, _, _, _, h, _ => by cases n <;> cases h
  | n, .cls _, _, _, _, h, _ => by cases n <;> cases h
  | n, .cst _, _, _, _, h, _ => by cases n <;> cases h
  | n, .ty _, _, _, _, h, _ => by cases n <;> cases h
  | n, .scr, _, _, _, h, _ => by cases n <;> cases h
end DL
namespace DL
def runs_sp_like2 := And.intro @isNon_bl (And.intro @isNon_int (@isNon_lst))
end DL
namespace DL
open PySem L2
section
variable {s : S} {Q : D → S → Prop} {E : Ex → S → Prop}
structure TmD where
  heirs : Str
  begins : List Str
  guarded : Bool
  arguments : Bool
  stops : Bool
  asks : Bool
  changes : Bool
deriving DecidableEq
def heirsL : List Str := ["none", "plain", "placed", "free"]
def TmD.ins (x : TmD) : D := .ins "Terms" ["heirs", "begins", "guarded", "arguments", "stops", "asks", "changes"] [.str x.heirs, .tup (x.begins.map .str), .bl x.guarded, .bl x.arguments, .bl x.stops, .bl x.asks, .bl x.changes]
def TmD.row (x : TmD) : D := .tup [.str x.heirs, .tup (x.begins.map .str), .bl x.guarded, .bl x.arguments, .bl x.stops, .bl x.asks, .bl x.changes]
def TmD.kvs (x : TmD) : List (Key × D) := [(.inr "heirs", .str x.heirs), (.inr "begins", .tup (x.begins.map .str)), (.inr "guarded", .bl x.guarded), (.inr "arguments", .bl x.arguments), (.inr "stops", .bl x.stops), (.inr "asks", .bl x.asks), (.inr "changes", .bl x.changes)]
def TmD.dic (x : TmD) : D := .dic (x.kvs.map (·.1)) (x.kvs.map (·.2))
structure TmD.Good (x : TmD) : Prop where
  heirs : x.heirs ∈ heirsL
  begins : x.begins.Sublist upsL
section
variable {x y : TmD}
theorem fld_tm0 : fldD "Terms" "heirs" x.ins s = some (.str x.heirs) := rfl
theorem fld_tm1 : fldD "Terms" "begins" x.ins s = some (.tup (x.begins.map .str)) := rfl
theorem fld_tm2 : fldD "Terms" "guarded" x.ins s = some (.bl x.guarded) := rfl
theorem fld_tm3 : fldD "Terms" "arguments" x.ins s = some (.bl x.arguments) := rfl
theorem fld_tm4 : fldD "Terms" "stops" x.ins s = some (.bl x.stops) := rfl
theorem fld_tm5 : fldD "Terms" "asks" x.ins s = some (.bl x.asks) := rfl
theorem fld_tm6 : fldD "Terms" "changes" x.ins s = some (.bl x.changes) := rfl
theorem iok_tm : insOk "Terms" "written" x.ins s = some () := rfl
end
end
end DL
namespace DL
def runs_sp_terms := And.intro @fld_tm0 (And.intro @fld_tm1 (And.intro @fld_tm2 (And.intro @fld_tm3 (And.intro @fld_tm4 (And.intro @fld_tm5 (And.intro @fld_tm6 (@iok_tm)))))))
end DL
namespace DL
open PySem L2
theorem put_n2 {v0 v1 v2 : D} : putKD ([(.inr "heirs", v0), (.inr "begins", v1)] : List (Key × D)) (.inr "guarded") v2 = [(.inr "heirs", v0), (.inr "begins", v1), (.inr "guarded", v2)] := rfl
theorem put_n3 {v0 v1 v2 v3 : D} : putKD ([(.inr "heirs", v0), (.inr "begins", v1), (.inr "guarded", v2)] : List (Key × D)) (.inr "arguments") v3 = [(.inr "heirs", v0), (.inr "begins", v1), (.inr "guarded", v2), (.inr "arguments", v3)] := rfl
theorem put_n4 {v0 v1 v2 v3 v4 : D} : putKD ([(.inr "heirs", v0), (.inr "begins", v1), (.inr "guarded", v2), (.inr "arguments", v3)] : List (Key × D)) (.inr "stops") v4 = [(.inr "heirs", v0), (.inr "begins", v1), (.inr "guarded", v2), (.inr "arguments", v3), (.inr "stops", v4)] := rfl
theorem put_n5 {v0 v1 v2 v3 v4 v5 : D} : putKD ([(.inr "heirs", v0), (.inr "begins", v1), (.inr "guarded", v2), (.inr "arguments", v3), (.inr "stops", v4)] : List (Key × D)) (.inr "asks") v5 = [(.inr "heirs", v0), (.inr "begins", v1), (.inr "guarded", v2), (.inr "arguments", v3), (.inr "stops", v4), (.inr "asks", v5)] := rfl
theorem put_n6 {v0 v1 v2 v3 v4 v5 v6 : D} : putKD ([(.inr "heirs", v0), (.inr "begins", v1), (.inr "guarded", v2), (.inr "arguments", v3), (.inr "stops", v4), (.inr "asks", v5)] : List (Key × D)) (.inr "changes") v6 = [(.inr "heirs", v0), (.inr "begins", v1), (.inr "guarded", v2), (.inr "arguments", v3), (.inr "stops", v4), (.inr "asks", v5), (.inr "changes", v6)] := rfl
section
variable {x : TmD}
end
section
variable {s : S} {Q : D → S → Prop} {E : Ex → S → Prop} {x : TmD}
end
end DL
namespace DL
def runs_sp_putn := And.intro @put_n2 (And.intro @put_n3 (And.intro @put_n4 (And.intro @put_n5 (@put_n6))))
end DL
namespace DL
open PySem L2
def dat : Nat → D → Bool
  | _, .non => true
  | _, .bl _ => true
  | _, .int _ => true
  | _, .str z => decide (z.length ≤ 1000) && PyData.strOk z
  | n + 1, .tup xs => decide (xs.length ≤ 1000) && xs.all (dat n)
  | n + 1, .lst xs => decide (xs.length ≤ 1000) && xs.all (dat n)
  | _, _ => false
theorem dat_tup {n : Nat} {xs : List D} : dat (n + 1) (.tup xs) = true ↔ xs.length ≤ 1000 ∧ ∀ x ∈ xs, dat n x = true := by
  show (decide (xs.length ≤ 1000) && xs.all (dat n)) = true ↔ _
  rw [Bool.and_eq_true, decide_eq_true_eq, List.all_eq_true]
theorem dat_lst {n : Nat} {xs : List D} : dat (n + 1) (.lst xs) = true ↔ xs.length ≤ 1000 ∧ ∀ x ∈ xs, dat n x = true := by
  show (decide (xs.length ≤ 1000) && xs.all (dat n)) = true ↔ _
  rw [Bool.and_eq_true, decide_eq_true_eq, List.all_eq_true]
theorem dat_str {n : Nat} {z : Str} : dat n (.str z) = true ↔ z.length ≤ 1000 ∧ PyData.strOk z = true := by
  cases n <;> (show (decide (z.length ≤ 1000) && PyData.strOk z) = true ↔ _; rw [Bool.and_eq_true, decide_eq_true_eq])
theorem dat_flat : ∀ {n : Nat} {d : D}, dat n d = true → flat d = true
  | _, .non, _ => rfl
  | _, .bl _, _ => rfl
  | _, .int _, _ => rfl
  | _, .str z, h => by
    show decide (z.length ≤ sizeLine) = true
    exact decide_eq_true (Nat.le_trans (dat_str.mp h).1 (by decide))
  | _, .tup _, _ => rfl
  | _, .lst _, _ => rfl
  | n, .dic _ _, h => by cases n <;> cases h
  | n, .ins _ _ _, h => by cases n <;> cases h
  | n, .ref _, h => by cases n <;> cases h
  | n, .cls _, h => by cases n <;> cases h
  | n, .cst _, h => by cases n <;> cases h
  | n, .ty _, h => by cases n <;> cases h
  | n, .scr, h => by cases n <;> cases h
theorem dat_lit : ∀ {n : Nat} {d : D}, dat n d = true → litE n d = true
  | 0, .non, _ => rfl
  | 0, .bl _, _ => rfl
  | 0, .int _, _ => rfl
  | 0, .str _, _ => rfl
  | _ + 1, .non, _ => rfl
  | _ + 1, .bl _, _ => rfl
  | _ + 1, .int _, _ => rfl
  | _ + 1, .str _, _ => rfl
  | n + 1, .tup xs, h => by
    obtain ⟨h1, h2⟩ := dat_tup.mp h
    show (decide (xs.length ≤ 1000000) && xs.all (litE n)) = true
    rw [decide_eq_true (Nat.le_trans h1 (by decide)), Bool.true_and, List.all_eq_true]
    exact fun x hx => dat_lit (h2 x hx)
  | n + 1, .lst xs, h => by
    obtain ⟨h1, h2⟩ := dat_lst.mp h
    show (decide (xs.length ≤ 1000000) && xs.all (litE n)) = true
    rw [decide_eq_true (Nat.le_trans h1 (by decide)), Bool.true_and, List.all_eq_true]
    exact fun x hx => dat_lit (h2 x hx)
  | 0, .tup _, h => by cases h
  | 0, .lst _, h => by cases h
  | n, .dic _ _, h => by cases n <;> cases h
  | n, .ins _ _ _, h => by cases n <;> cases h
  | n, .ref _, h => by cases n <;> cases h
  | n, .cls _, h => by cases n <;> cases h
  | n, .cst _, h => by cases n <;> cases h
  | n, .ty _, h => by cases n <;> cases h
  | n, .scr, h => by cases n <;> cases h
theorem dat_succ : ∀ {n : Nat} {x : D}, dat n x = true → dat (n + 1) x = true
  | 0, .non, _ => rfl
  | _ + 1, .non, _ => rfl
  | 0, .bl _, _ => rfl
  | _ + 1, .bl _, _ => rfl
  | 0, .int _, _ => rfl
  | _ + 1, .int _, _ => rfl
  | 0, .str _, h => h
  | _ + 1, .str _, h => h
  | n + 1, .tup xs, h => by
    obtain ⟨h1, h2⟩ := dat_tup.mp h
    exact dat_tup.mpr ⟨h1, fun x hx => dat_succ (h2 x hx)⟩
  | n + 1, .lst xs, h => by
    obtain ⟨h1, h2⟩ := dat_lst.mp h
    exact dat_lst.mpr ⟨h1, fun x hx => dat_succ (h2 x hx)⟩
  | 0, .tup xs, h => by cases h
  | 0, .lst xs, h => by cases h
  | n, .dic _ _, h => by cases n <;> cases h
  | n, .ins _ _ _, h => by cases n <;> cases h
  | n, .ref _, h => by cases n <;> cases h
  | n, .cls _, h => by cases n <;> cases h
  | n, .cst _, h => by cases n <;> cases h
  | n, .ty _, h => by cases n <;> cases h
  | n, .scr, h => by cases n <;> cases h
theorem dat_mono {n k : Nat} {x : D} (h : dat n x = true) : dat (n + k) x = true := by
  induction k with
  | zero => exact h
  | succ k ih => exact dat_succ ih
theorem strOk_iff {z : Str} : PyData.strOk z = true ↔ ∀ c ∈ z.cps.toList, c < 0x110000 := by
  unfold PyData.strOk
  rw [Array.all_eq_true']
  simp
theorem dat_name {n : Nat} {z : Str} (h : isName z = true) : dat n (.str z) = true := dat_str.mpr ⟨Nat.le_trans (isName_iff.mp h).1.2 (by decide), strOk_name h⟩
theorem strOk_app {a b : Str} (ha : PyData.strOk a = true) (hb : PyData.strOk b = true) : PyData.strOk (a ++ b) = true := by
  rw [strOk_iff] at ha hb ⊢
  intro c hc
  rw [str_app] at hc
  rcases List.mem_append.mp hc with q | q
  · exact ha c q
  · exact hb c q
theorem cutS_hi {z : Str} {n : Nat} : (cutS z none (some (n : Int))).cps.toList = z.cps.toList.take n := by
  unfold cutS
  have h1 : HT.sIx z.length z.length (some (n : Int)) = min n z.length := HT.sIx_nat _ _ n
  rw [h1]
  show (((z.cps.toList.drop 0).take (min n z.length - 0)).toArray).toList = _
  rw [len_list]
  simp [← List.take_eq_take_min]
theorem cutS_lo {z : Str} {n : Nat} : (cutS z (some (n : Int)) none).cps.toList = z.cps.toList.drop n := by
  unfold cutS
  have h1 : HT.sIx z.length 0 (some (n : Int)) = min n z.length := HT.sIx_nat _ _ n
  have h2 : HT.sIx z.length z.length none = z.length := rfl
  rw [h1, h2]
  show (((z.cps.toList.drop (min n z.length)).take (z.length - min n z.length)).toArray).toList = _
  rw [len_list]
  by_cases h : n ≤ z.cps.toList.length
  · rw [Nat.min_eq_left h]
    show List.take (z.cps.toList.length - n) (List.drop n z.cps.toList) = _
    exact List.take_of_length_le (by simp)
  · rw [Nat.min_eq_right (by omega), List.drop_eq_nil_of_le (Nat.le_refl _), List.drop_eq_nil_of_le (show z.cps.toList.length ≤ n by omega)]
    simp
theorem strOk_hi {z : Str} {n : Nat} (h : PyData.strOk z = true) : PyData.strOk (cutS z none (some (n : Int))) = true := by
  rw [strOk_iff] at h ⊢
  rw [cutS_hi]
  exact fun c hc => h c (List.mem_of_mem_take hc)
theorem strOk_lo {z : Str} {n : Nat} (h : PyData.strOk z = true) : PyData.strOk (cutS z (some (n : Int)) none) = true := by
  rw [strOk_iff] at h ⊢
  rw [cutS_lo]
  exact fun c hc => h c (List.mem_of_mem_drop hc)
theorem len_app (a b : Str) : (a ++ b).length = a.length + b.length := by
  rw [len_list, str_app, List.length_append, ← len_list, ← len_list]
theorem len_hi {z : Str} {n : Nat} : (cutS z none (some (n : Int))).length ≤ z.length := by
  rw [len_list, len_list, cutS_hi]; simp; omega
theorem len_lo {z : Str} {n : Nat} : (cutS z (some (n : Int)) none).length ≤ z.length := by
  rw [len_list, len_list, cutS_lo]; simp
theorem sl_str {z : Str} {lo hi : Option Int} (h : z.length ≤ 1000) : slD (.str z) lo hi = some (.str (cutS z lo hi)) := by
  show (if z.length ≤ sizeLine then some (D.str (cutS z lo hi)) else none) = _
  rw [if_pos (Nat.le_trans h (by decide))]
theorem isNameD_inv {d : D} (h : isNameD d = true) : ∃ z, d = .str z ∧ isName z = true := by
  cases d with
  | str z => exact ⟨z, rfl, h⟩
  | _ => cases h
theorem names_of : ∀ {xs : List D}, (∀ x ∈ xs, isNameD x = true) → ∃ zs : List Str, xs = zs.map .str ∧ ∀ z ∈ zs, isName z = true
  | [], _ => ⟨[], rfl, fun _ h => by cases h⟩
  | x :: xs, h => by
    obtain ⟨z, rfl, hz⟩ := isNameD_inv (h x List.mem_cons_self)
    obtain ⟨zs, rfl, hzs⟩ := names_of fun y hy => h y (List.mem_cons_of_mem _ hy)
    exact ⟨z :: zs, rfl, fun y hy => by
      rcases List.mem_cons.mp hy with rfl | hy
      · exact hz
      · exact hzs y hy⟩
theorem dat_args {n : Nat} {zs : List Str} (h : zs.length ≤ 3) (hz : ∀ z ∈ zs, isName z = true) : dat (n + 1) (.tup (zs.map .str)) = true := by
  refine dat_tup.mpr ⟨by simp; omega, fun x hx => ?_⟩
  obtain ⟨z, h1, rfl⟩ := List.mem_map.mp hx
  exact dat_name (hz z h1)
end DL
namespace DL
open PySem L2
section
variable {s : S} {Q : D → S → Prop} {E : Ex → S → Prop} {b c : Addr}
def oddSigns : List Nat := (" ABZ019_-(){}~." : Str).cps.toList
theorem odd15 : oddSigns.length = 15 := by decide +kernel
theorem odd_len : (" ABZ019_-(){}~." : Str).length ≤ sizeLine := by decide +kernel
theorem odd_ok : ∀ c ∈ oddSigns, c < 0x110000 := by decide +kernel
theorem odd_not : ∀ c ∈ oddSigns, c ∉ letters := by decide +kernel
theorem ix_odd {v : Int} (h0 : 0 ≤ v) (h1 : v < 15) : ∃ c, c ∈ oddSigns ∧ ixD (.str " ABZ019_-(){}~.") (.int v) s = some (.str (sg c)) := by
  obtain ⟨c, h2, h3⟩ := atI_pos (xs := oddSigns) h0 (by rw [odd15]; exact h1)
  exact ⟨c, h3, ix_str odd_len h2⟩
theorem spoilt_wp (hb : s.map b = some (.bag c)) (q : ∀ z, z.length ≤ 9 → PyData.strOk z = true → isName z = false → Q (.str z) s) : d_spoilt [.ref b] s Q E := by
  unfold d_spoilt b_spoilt
  simp -implicitDefEqProofs -failIfUnchanged only [word_snoc, DL.runs_D14, DL.runs_D15, DL.runs_D16, DL.runs_D17, DL.runs_D19, DL.runs_D20, DL.runs_D23, DL.runs_D24, DL.runs_D25, DL.runs_D26, DL.runs_D31, DL.runs_D34, DL.runs_D36, DL.runs_D38, DL.runs_D43, DL.runs_D45, DL.runs_mir, DL.runs_sp_exec, DL.runs_sp_fam2, DL.runs_sp_lit, DL.runs_sp_like2, DL.runs_sp_terms, DL.runs_sp_putn, Nat.reduceSub, Nat.reduceAdd, Nat.reduceLT, true_and]
  refine word_wp hb fun z hz => ?_
  have hl := (isName_iff.mp hz).1
  simp -implicitDefEqProofs -failIfUnchanged only [word_snoc, DL.runs_D14, DL.runs_D15, DL.runs_D16, DL.runs_D17, DL.runs_D19, DL.runs_D20, DL.runs_D23, DL.runs_D24, DL.runs_D25, DL.runs_D26, DL.runs_D31, DL.runs_D34, DL.runs_D36, DL.runs_D38, DL.runs_D43, DL.runs_D45, DL.runs_mir, DL.runs_sp_exec, DL.runs_sp_fam2, DL.runs_sp_lit, DL.runs_sp_like2, DL.runs_sp_terms, DL.runs_sp_putn, Nat.reduceSub, Nat.reduceAdd, Nat.reduceLT, true_and, len_str (show z.length ≤ sizeLine from Nat.le_trans hl.2 (by decide))]
  refine draw_wp hb (by omega) (by omega) fun v v0 v1 => ?_
  obtain ⟨n, rfl⟩ := Int.eq_ofNat_of_zero_le v0
  simp -implicitDefEqProofs -failIfUnchanged only [word_snoc, DL.runs_D14, DL.runs_D15, DL.runs_D16, DL.runs_D17, DL.runs_D19, DL.runs_D20, DL.runs_D23, DL.runs_D24, DL.runs_D25, DL.runs_D26, DL.runs_D31, DL.runs_D34, DL.runs_D36, DL.runs_D38, DL.runs_D43, DL.runs_D45, DL.runs_mir, DL.runs_sp_exec, DL.runs_sp_fam2, DL.runs_sp_lit, DL.runs_sp_like2, DL.runs_sp_terms, DL.runs_sp_putn, Nat.reduceSub, Nat.reduceAdd, Nat.reduceLT, true_and, sl_str (show z.length ≤ 1000 by omega)]
  refine draw_wp hb (by decide) (by decide) fun w w0 w1 => ?_
  obtain ⟨x, hx, ex⟩ := ix_odd (s := s) w0 w1
  have l1 := @len_hi z n
  have l2 := @len_lo z n
  have l3 : (sg x).length = 1 := rfl
  have e1 : addD (.str (cutS z none (some (n : Int)))) (.str (sg x)) s = some (.str (cutS z none (some (n : Int)) ++ sg x)) := add_str (le_sz (by omega))
  have e2 : addD (.str (cutS z none (some (n : Int)) ++ sg x)) (.str (cutS z (some (n : Int)) none)) s = some (.str (cutS z none (some (n : Int)) ++ sg x ++ cutS z (some (n : Int)) none)) := add_str (le_sz (by rw [len_app]; omega))
  simp -implicitDefEqProofs -failIfUnchanged only [word_snoc, DL.runs_D14, DL.runs_D15, DL.runs_D16, DL.runs_D17, DL.runs_D19, DL.runs_D20, DL.runs_D23, DL.runs_D24, DL.runs_D25, DL.runs_D26, DL.runs_D31, DL.runs_D34, DL.runs_D36, DL.runs_D38, DL.runs_D43, DL.runs_D45, DL.runs_mir, DL.runs_sp_exec, DL.runs_sp_fam2, DL.runs_sp_lit, DL.runs_sp_like2, DL.runs_sp_terms, DL.runs_sp_putn, Nat.reduceSub, Nat.reduceAdd, Nat.reduceLT, true_and, ex, e1, e2]
  refine q _ ?_ ?_ ?_
  · rw [len_list, str_app, str_app, cutS_hi, cutS_lo]
    rw [len_list] at hl
    have : (sg x).cps.toList.length = 1 := rfl
    simp only [List.length_append, this, List.length_take, List.length_drop]
    omega
  · refine strOk_app (strOk_app (strOk_hi (strOk_name hz)) ?_) (strOk_lo (strOk_name hz))
    rw [strOk_iff]
    intro y hy
    have : y = x := by simpa [sg] using hy
    rw [this]; exact odd_ok x hx
  · rw [Bool.eq_false_iff]
    intro h
    refine odd_not x hx ((isName_iff.mp h).2 x ?_)
    rw [str_app, str_app]
    simp [sg]
theorem ints_list (n : Nat) : intsD 0 n = (List.range n).map fun i : Nat => D.int (i : Int) := ints_eq
theorem arguments_go {m : Env → M Ex D} [MB m] {ρ : Env} {f : D → Env → Option Env} {QL : List D → S → Prop} {v : Int} (v0 : 0 ≤ v) (v1 : v < 4) (h : ∀ i : Nat, ∃ ρ1, f (.int (i : Int)) ρ = some ρ1 ∧ m ρ1 s (fun y s1 => isNameD y = true ∧ s1 = s) (fun _ _ => False))
    (q : ∀ zs : List Str, zs.length ≤ 3 → (∀ z ∈ zs, isName z = true) → QL (zs.map .str) s) : lcLoop (fun _ => True) f yesT m ρ (intsD 0 v.toNat) [] s QL E := by
  rw [ints_list]
  refine lc_any (fun i : Nat => D.int (i : Int)) (fun y => isNameD y = true) trivial _ _ (fun i _ => ?_) fun ys hl hy => ?_
  · obtain ⟨ρ1, h1, h2⟩ := h i
    exact ⟨ρ1, h1, ⟨rfl, rfl⟩, h2⟩
  · obtain ⟨zs, rfl, hz⟩ := names_of hy
    exact q zs (by simp at hl; omega) hz
end
end DL
namespace DL
open PySem L2
section
variable {s : S} {Q : D → S → Prop} {E : Ex → S → Prop} {b c : Addr}
theorem arguments_wp (hb : s.map b = some (.bag c)) (q : ∀ zs : List Str, zs.length ≤ 3 → (∀ z ∈ zs, isName z = true) → Q (.tup (zs.map .str)) s) : d_arguments [.ref b] s Q E := by
  unfold d_arguments b_arguments
  simp -implicitDefEqProofs -failIfUnchanged only [word_snoc, DL.runs_D14, DL.runs_D15, DL.runs_D16, DL.runs_D17, DL.runs_D19, DL.runs_D20, DL.runs_D23, DL.runs_D24, DL.runs_D25, DL.runs_D26, DL.runs_D31, DL.runs_D34, DL.runs_D36, DL.runs_D38, DL.runs_D43, DL.runs_D45, DL.runs_mir, DL.runs_sp_exec, DL.runs_sp_fam2, DL.runs_sp_lit, DL.runs_sp_like2, DL.runs_sp_terms, DL.runs_sp_putn, Nat.reduceSub, Nat.reduceAdd, Nat.reduceLT, true_and]
  refine draw_wp hb (by decide) (by decide) fun v v0 v1 => ?_
  simp -implicitDefEqProofs -failIfUnchanged only [word_snoc, DL.runs_D14, DL.runs_D15, DL.runs_D16, DL.runs_D17, DL.runs_D19, DL.runs_D20, DL.runs_D23, DL.runs_D24, DL.runs_D25, DL.runs_D26, DL.runs_D31, DL.runs_D34, DL.runs_D36, DL.runs_D38, DL.runs_D43, DL.runs_D45, DL.runs_mir, DL.runs_sp_exec, DL.runs_sp_fam2, DL.runs_sp_lit, DL.runs_sp_like2, DL.runs_sp_terms, DL.runs_sp_putn, Nat.reduceSub, Nat.reduceAdd, Nat.reduceLT, true_and, range1_nat v0 (show v ≤ 1000000 by omega)]
  refine arguments_go v0 v1 (fun i => ⟨_, rfl, ?_⟩) fun zs h1 h2 => ?_
  · simp -implicitDefEqProofs -failIfUnchanged only [word_snoc, DL.runs_D14, DL.runs_D15, DL.runs_D16, DL.runs_D17, DL.runs_D19, DL.runs_D20, DL.runs_D23, DL.runs_D24, DL.runs_D25, DL.runs_D26, DL.runs_D31, DL.runs_D34, DL.runs_D36, DL.runs_D38, DL.runs_D43, DL.runs_D45, DL.runs_mir, DL.runs_sp_exec, DL.runs_sp_fam2, DL.runs_sp_lit, DL.runs_sp_like2, DL.runs_sp_terms, DL.runs_sp_putn, Nat.reduceSub, Nat.reduceAdd, Nat.reduceLT, true_and]
    exact short_wp hb fun z hz => ⟨hz, rfl⟩
  · simp -implicitDefEqProofs -failIfUnchanged only [word_snoc, DL.runs_D14, DL.runs_D15, DL.runs_D16, DL.runs_D17, DL.runs_D19, DL.runs_D20, DL.runs_D23, DL.runs_D24, DL.runs_D25, DL.runs_D26, DL.runs_D31, DL.runs_D34, DL.runs_D36, DL.runs_D38, DL.runs_D43, DL.runs_D45, DL.runs_mir, DL.runs_sp_exec, DL.runs_sp_fam2, DL.runs_sp_lit, DL.runs_sp_like2, DL.runs_sp_terms, DL.runs_sp_putn, Nat.reduceSub, Nat.reduceAdd, Nat.reduceLT, true_and]
    exact q zs h1 h2
end
end DL
namespace DL
open PySem L2
section
variable {s : S} {Q : D → S → Prop} {E : Ex → S → Prop} {b c : Addr}
theorem pow30 : powD (.int 10) (.int 30) s = some (.int 1000000000000000000000000000000) := rfl
theorem pow29 : powD (.int 10) (.int 29) s = some (.int 100000000000000000000000000000) := rfl
def oddRow : D → Bool
  | .tup [_, _, .bl _, _] => false
  | _ => true
theorem odd_tup {xs : List D} (h : xs.length ≤ 3) : oddRow (.tup xs) = true := by
  match xs, h with
  | [], _ => rfl
  | [_], _ => rfl
  | [_, _], _ => rfl
  | [_, _, x], _ => cases x <;> rfl
theorem any_wp (hb : s.map b = some (.bag c)) (q : ∀ d, dat 2 d = true → oddRow d = true → Q d s) : d_any [.ref b] s Q E := by
  unfold d_any b_any
  simp -implicitDefEqProofs -failIfUnchanged only [word_snoc, DL.runs_D14, DL.runs_D15, DL.runs_D16, DL.runs_D17, DL.runs_D19, DL.runs_D20, DL.runs_D23, DL.runs_D24, DL.runs_D25, DL.runs_D26, DL.runs_D31, DL.runs_D34, DL.runs_D36, DL.runs_D38, DL.runs_D43, DL.runs_D45, DL.runs_mir, DL.runs_sp_exec, DL.runs_sp_fam2, DL.runs_sp_lit, DL.runs_sp_like2, DL.runs_sp_terms, DL.runs_sp_putn, Nat.reduceSub, Nat.reduceAdd, Nat.reduceLT, true_and]
  refine draw_wp hb (by decide) (by decide) fun v v0 v1 => ?_
  simp -implicitDefEqProofs -failIfUnchanged only [word_snoc, DL.runs_D14, DL.runs_D15, DL.runs_D16, DL.runs_D17, DL.runs_D19, DL.runs_D20, DL.runs_D23, DL.runs_D24, DL.runs_D25, DL.runs_D26, DL.runs_D31, DL.runs_D34, DL.runs_D36, DL.runs_D38, DL.runs_D43, DL.runs_D45, DL.runs_mir, DL.runs_sp_exec, DL.runs_sp_fam2, DL.runs_sp_lit, DL.runs_sp_like2, DL.runs_sp_terms, DL.runs_sp_putn, Nat.reduceSub, Nat.reduceAdd, Nat.reduceLT, true_and, pow30, pow29]
  refine selB_of (fun _ => word_wp hb fun z hz => q _ (dat_name hz) rfl) fun _ => ?_
  refine selB_of (fun _ => spoilt_wp hb fun z h1 h2 _ => q _ (dat_str.mpr ⟨by omega, h2⟩) rfl) fun _ => ?_
  refine selB_of (fun _ => ?_) fun _ => ?_
  · refine word_wp hb fun z hz => ?_
    simp -implicitDefEqProofs -failIfUnchanged only [word_snoc, DL.runs_D14, DL.runs_D15, DL.runs_D16, DL.runs_D17, DL.runs_D19, DL.runs_D20, DL.runs_D23, DL.runs_D24, DL.runs_D25, DL.runs_D26, DL.runs_D31, DL.runs_D34, DL.runs_D36, DL.runs_D38, DL.runs_D43, DL.runs_D45, DL.runs_mir, DL.runs_sp_exec, DL.runs_sp_fam2, DL.runs_sp_lit, DL.runs_sp_like2, DL.runs_sp_terms, DL.runs_sp_putn, Nat.reduceSub, Nat.reduceAdd, Nat.reduceLT, true_and]
    refine word_wp hb fun y hy => ?_
    have h1 := (isName_iff.mp hz).1.2
    have h2 := (isName_iff.mp hy).1.2
    simp -implicitDefEqProofs -failIfUnchanged only [word_snoc, DL.runs_D14, DL.runs_D15, DL.runs_D16, DL.runs_D17, DL.runs_D19, DL.runs_D20, DL.runs_D23, DL.runs_D24, DL.runs_D25, DL.runs_D26, DL.runs_D31, DL.runs_D34, DL.runs_D36, DL.runs_D38, DL.runs_D43, DL.runs_D45, DL.runs_mir, DL.runs_sp_exec, DL.runs_sp_fam2, DL.runs_sp_lit, DL.runs_sp_like2, DL.runs_sp_terms, DL.runs_sp_putn, Nat.reduceSub, Nat.reduceAdd, Nat.reduceLT, true_and, add_str (s := s) (show z.length + y.length ≤ sizeLine from le_sz (by omega))]
    exact q _ (dat_str.mpr ⟨by rw [len_app]; omega, strOk_app (strOk_name hz) (strOk_name hy)⟩) rfl
  refine selB_of (fun _ => ?_) fun _ => ?_
  · refine draw_wp hb (by decide) (by decide) fun w w0 w1 => ?_
    obtain ⟨x, h1, h2⟩ := atI_pos (xs := ([.str "", .non, .bl true, .bl false, .int 0, .int 1, .tup [], .lst []] : List D)) w0 w1
    simp -implicitDefEqProofs -failIfUnchanged only [word_snoc, DL.runs_D14, DL.runs_D15, DL.runs_D16, DL.runs_D17, DL.runs_D19, DL.runs_D20, DL.runs_D23, DL.runs_D24, DL.runs_D25, DL.runs_D26, DL.runs_D31, DL.runs_D34, DL.runs_D36, DL.runs_D38, DL.runs_D43, DL.runs_D45, DL.runs_mir, DL.runs_sp_exec, DL.runs_sp_fam2, DL.runs_sp_lit, DL.runs_sp_like2, DL.runs_sp_terms, DL.runs_sp_putn, Nat.reduceSub, Nat.reduceAdd, Nat.reduceLT, true_and, h1]
    have ha : ∀ x ∈ ([.str "", .non, .bl true, .bl false, .int 0, .int 1, .tup [], .lst []] : List D), dat 2 x = true ∧ oddRow x = true := by decide +kernel
    exact q _ (ha x h2).1 (ha x h2).2
  refine selB_of (fun _ => draw_wp hb (by decide) (by decide) fun w w0 w1 => ?_) fun _ => ?_
  · simp -implicitDefEqProofs -failIfUnchanged only [word_snoc, DL.runs_D14, DL.runs_D15, DL.runs_D16, DL.runs_D17, DL.runs_D19, DL.runs_D20, DL.runs_D23, DL.runs_D24, DL.runs_D25, DL.runs_D26, DL.runs_D31, DL.runs_D34, DL.runs_D36, DL.runs_D38, DL.runs_D43, DL.runs_D45, DL.runs_mir, DL.runs_sp_exec, DL.runs_sp_fam2, DL.runs_sp_lit, DL.runs_sp_like2, DL.runs_sp_terms, DL.runs_sp_putn, Nat.reduceSub, Nat.reduceAdd, Nat.reduceLT, true_and]
    exact q _ rfl rfl
  refine selB_of (fun _ => ?_) fun _ => ?_
  · refine draw_wp hb (by decide) (by decide) fun w w0 w1 => ?_
    simp -implicitDefEqProofs -failIfUnchanged only [word_snoc, DL.runs_D14, DL.runs_D15, DL.runs_D16, DL.runs_D17, DL.runs_D19, DL.runs_D20, DL.runs_D23, DL.runs_D24, DL.runs_D25, DL.runs_D26, DL.runs_D31, DL.runs_D34, DL.runs_D36, DL.runs_D38, DL.runs_D43, DL.runs_D45, DL.runs_mir, DL.runs_sp_exec, DL.runs_sp_fam2, DL.runs_sp_lit, DL.runs_sp_like2, DL.runs_sp_terms, DL.runs_sp_putn, Nat.reduceSub, Nat.reduceAdd, Nat.reduceLT, true_and, range1_nat w0 (show w ≤ 1000000 by omega)]
    refine arguments_go w0 (by omega) (fun i => ⟨_, rfl, ?_⟩) fun zs h1 h2 => ?_
    · simp -implicitDefEqProofs -failIfUnchanged only [word_snoc, DL.runs_D14, DL.runs_D15, DL.runs_D16, DL.runs_D17, DL.runs_D19, DL.runs_D20, DL.runs_D23, DL.runs_D24, DL.runs_D25, DL.runs_D26, DL.runs_D31, DL.runs_D34, DL.runs_D36, DL.runs_D38, DL.runs_D43, DL.runs_D45, DL.runs_mir, DL.runs_sp_exec, DL.runs_sp_fam2, DL.runs_sp_lit, DL.runs_sp_like2, DL.runs_sp_terms, DL.runs_sp_putn, Nat.reduceSub, Nat.reduceAdd, Nat.reduceLT, true_and]
      exact word_wp hb fun z hz => ⟨hz, rfl⟩
    · simp -implicitDefEqProofs -failIfUnchanged only [word_snoc, DL.runs_D14, DL.runs_D15, DL.runs_D16, DL.runs_D17, DL.runs_D19, DL.runs_D20, DL.runs_D23, DL.runs_D24, DL.runs_D25, DL.runs_D26, DL.runs_D31, DL.runs_D34, DL.runs_D36, DL.runs_D38, DL.runs_D43, DL.runs_D45, DL.runs_mir, DL.runs_sp_exec, DL.runs_sp_fam2, DL.runs_sp_lit, DL.runs_sp_like2, DL.runs_sp_terms, DL.runs_sp_putn, Nat.reduceSub, Nat.reduceAdd, Nat.reduceLT, true_and]
      refine q _ (dat_lst.mpr ⟨by simp; omega, fun x hx => ?_⟩) rfl
      obtain ⟨z, h3, rfl⟩ := List.mem_map.mp hx
      exact dat_name (h2 z h3)
  refine selB_of (fun _ => ?_) fun _ => ?_
  · refine word_wp hb fun z1 h1 => ?_
    simp -implicitDefEqProofs -failIfUnchanged only [word_snoc, DL.runs_D14, DL.runs_D15, DL.runs_D16, DL.runs_D17, DL.runs_D19, DL.runs_D20, DL.runs_D23, DL.runs_D24, DL.runs_D25, DL.runs_D26, DL.runs_D31, DL.runs_D34, DL.runs_D36, DL.runs_D38, DL.runs_D43, DL.runs_D45, DL.runs_mir, DL.runs_sp_exec, DL.runs_sp_fam2, DL.runs_sp_lit, DL.runs_sp_like2, DL.runs_sp_terms, DL.runs_sp_putn, Nat.reduceSub, Nat.reduceAdd, Nat.reduceLT, true_and]
    refine word_wp hb fun z2 h2 => ?_
    simp -implicitDefEqProofs -failIfUnchanged only [word_snoc, DL.runs_D14, DL.runs_D15, DL.runs_D16, DL.runs_D17, DL.runs_D19, DL.runs_D20, DL.runs_D23, DL.runs_D24, DL.runs_D25, DL.runs_D26, DL.runs_D31, DL.runs_D34, DL.runs_D36, DL.runs_D38, DL.runs_D43, DL.runs_D45, DL.runs_mir, DL.runs_sp_exec, DL.runs_sp_fam2, DL.runs_sp_lit, DL.runs_sp_like2, DL.runs_sp_terms, DL.runs_sp_putn, Nat.reduceSub, Nat.reduceAdd, Nat.reduceLT, true_and]
    refine word_wp hb fun z3 h3 => ?_
    simp -implicitDefEqProofs -failIfUnchanged only [word_snoc, DL.runs_D14, DL.runs_D15, DL.runs_D16, DL.runs_D17, DL.runs_D19, DL.runs_D20, DL.runs_D23, DL.runs_D24, DL.runs_D25, DL.runs_D26, DL.runs_D31, DL.runs_D34, DL.runs_D36, DL.runs_D38, DL.runs_D43, DL.runs_D45, DL.runs_mir, DL.runs_sp_exec, DL.runs_sp_fam2, DL.runs_sp_lit, DL.runs_sp_like2, DL.runs_sp_terms, DL.runs_sp_putn, Nat.reduceSub, Nat.reduceAdd, Nat.reduceLT, true_and]
    refine word_wp hb fun z4 h4 => ?_
    simp -implicitDefEqProofs -failIfUnchanged only [word_snoc, DL.runs_D14, DL.runs_D15, DL.runs_D16, DL.runs_D17, DL.runs_D19, DL.runs_D20, DL.runs_D23, DL.runs_D24, DL.runs_D25, DL.runs_D26, DL.runs_D31, DL.runs_D34, DL.runs_D36, DL.runs_D38, DL.runs_D43, DL.runs_D45, DL.runs_mir, DL.runs_sp_exec, DL.runs_sp_fam2, DL.runs_sp_lit, DL.runs_sp_like2, DL.runs_sp_terms, DL.runs_sp_putn, Nat.reduceSub, Nat.reduceAdd, Nat.reduceLT, true_and]
    refine q _ (dat_tup.mpr ⟨(by decide : 4 ≤ 1000), fun x hx => ?_⟩) rfl
    simp only [List.mem_cons, List.not_mem_nil, or_false] at hx
    rcases hx with rfl | rfl | rfl | rfl
    · exact dat_name h1
    · exact dat_name h2
    · exact dat_name h3
    · exact dat_name h4
  refine selB_of (fun _ => ?_) fun _ => ?_
  · refine word_wp hb fun z1 h1 => ?_
    simp -implicitDefEqProofs -failIfUnchanged only [word_snoc, DL.runs_D14, DL.runs_D15, DL.runs_D16, DL.runs_D17, DL.runs_D19, DL.runs_D20, DL.runs_D23, DL.runs_D24, DL.runs_D25, DL.runs_D26, DL.runs_D31, DL.runs_D34, DL.runs_D36, DL.runs_D38, DL.runs_D43, DL.runs_D45, DL.runs_mir, DL.runs_sp_exec, DL.runs_sp_fam2, DL.runs_sp_lit, DL.runs_sp_like2, DL.runs_sp_terms, DL.runs_sp_putn, Nat.reduceSub, Nat.reduceAdd, Nat.reduceLT, true_and]
    refine spoilt_wp hb fun z2 h2 h3 _ => ?_
    simp -implicitDefEqProofs -failIfUnchanged only [word_snoc, DL.runs_D14, DL.runs_D15, DL.runs_D16, DL.runs_D17, DL.runs_D19, DL.runs_D20, DL.runs_D23, DL.runs_D24, DL.runs_D25, DL.runs_D26, DL.runs_D31, DL.runs_D34, DL.runs_D36, DL.runs_D38, DL.runs_D43, DL.runs_D45, DL.runs_mir, DL.runs_sp_exec, DL.runs_sp_fam2, DL.runs_sp_lit, DL.runs_sp_like2, DL.runs_sp_terms, DL.runs_sp_putn, Nat.reduceSub, Nat.reduceAdd, Nat.reduceLT, true_and]
    refine q _ (dat_tup.mpr ⟨(by decide : 2 ≤ 1000), fun x hx => ?_⟩) rfl
    simp only [List.mem_cons, List.not_mem_nil, or_false] at hx
    rcases hx with rfl | rfl
    · exact dat_name h1
    · exact dat_str.mpr ⟨by omega, h3⟩
  refine selB_of (fun _ => ?_) fun _ => ?_
  · refine word_wp hb fun z1 h1 => ?_
    simp -implicitDefEqProofs -failIfUnchanged only [word_snoc, DL.runs_D14, DL.runs_D15, DL.runs_D16, DL.runs_D17, DL.runs_D19, DL.runs_D20, DL.runs_D23, DL.runs_D24, DL.runs_D25, DL.runs_D26, DL.runs_D31, DL.runs_D34, DL.runs_D36, DL.runs_D38, DL.runs_D43, DL.runs_D45, DL.runs_mir, DL.runs_sp_exec, DL.runs_sp_fam2, DL.runs_sp_lit, DL.runs_sp_like2, DL.runs_sp_terms, DL.runs_sp_putn, Nat.reduceSub, Nat.reduceAdd, Nat.reduceLT, true_and]
    refine draw_wp hb (by decide) (by decide) fun w w0 w1 => ?_
    obtain ⟨x, h2, h3⟩ := atI_pos (xs := ([.str "", .non, .bl true, .int 1, .tup [], .lst []] : List D)) w0 w1
    simp -implicitDefEqProofs -failIfUnchanged only [word_snoc, DL.runs_D14, DL.runs_D15, DL.runs_D16, DL.runs_D17, DL.runs_D19, DL.runs_D20, DL.runs_D23, DL.runs_D24, DL.runs_D25, DL.runs_D26, DL.runs_D31, DL.runs_D34, DL.runs_D36, DL.runs_D38, DL.runs_D43, DL.runs_D45, DL.runs_mir, DL.runs_sp_exec, DL.runs_sp_fam2, DL.runs_sp_lit, DL.runs_sp_like2, DL.runs_sp_terms, DL.runs_sp_putn, Nat.reduceSub, Nat.reduceAdd, Nat.reduceLT, true_and, h2]
    have ha : ∀ x ∈ ([.str "", .non, .bl true, .int 1, .tup [], .lst []] : List D), dat 1 x = true := by decide +kernel
    refine q _ (dat_tup.mpr ⟨(by decide : 2 ≤ 1000), fun y hy => ?_⟩) rfl
    simp only [List.mem_cons, List.not_mem_nil, or_false] at hy
    rcases hy with rfl | rfl
    · exact dat_name h1
    · exact ha _ h3
  refine selB_of (fun _ => ?_) fun _ => ?_
  · refine word_wp hb fun z1 h1 => ?_
    simp -implicitDefEqProofs -failIfUnchanged only [word_snoc, DL.runs_D14, DL.runs_D15, DL.runs_D16, DL.runs_D17, DL.runs_D19, DL.runs_D20, DL.runs_D23, DL.runs_D24, DL.runs_D25, DL.runs_D26, DL.runs_D31, DL.runs_D34, DL.runs_D36, DL.runs_D38, DL.runs_D43, DL.runs_D45, DL.runs_mir, DL.runs_sp_exec, DL.runs_sp_fam2, DL.runs_sp_lit, DL.runs_sp_like2, DL.runs_sp_terms, DL.runs_sp_putn, Nat.reduceSub, Nat.reduceAdd, Nat.reduceLT, true_and]
    refine q _ (dat_tup.mpr ⟨(by decide : 1 ≤ 1000), fun y hy => ?_⟩) rfl
    simp only [List.mem_cons, List.not_mem_nil, or_false] at hy
    subst hy
    refine dat_tup.mpr ⟨(by decide : 1 ≤ 1000), fun y hy => ?_⟩
    simp only [List.mem_cons, List.not_mem_nil, or_false] at hy
    subst hy
    exact dat_name h1
  · exact arguments_wp hb fun zs h1 h2 => q _ (dat_args h1 h2) (odd_tup (by simpa using h1))
end
end DL
namespace DL
open PySem L2
section
variable {s : S} {Q : D → S → Prop} {E : Ex → S → Prop} {a : Addr}
theorem x_hdl_y {ρ : Env} {QF : Fl → S → Prop} {EE : Ex × Env → S → Prop} {sub : Str → Str → Option Bool} {c c' : Str} {i : Option Nat} {fh : Ex → Env → MS} {l : List HD} {ns : List Str} {vs : List D} (e : sub c c' = some true) : hdl sub (⟨c', i, fh⟩ :: l) ⟨c, ns, vs⟩ ρ s QF EE = suM ⟨c', i, fh⟩ ⟨c, ns, vs⟩ ρ s QF EE := x_hdl_yes e
theorem x_hdl_n {ρ : Env} {QF : Fl → S → Prop} {EE : Ex × Env → S → Prop} {sub : Str → Str → Option Bool} {c c' : Str} {i : Option Nat} {fh : Ex → Env → MS} {l : List HD} {ns : List Str} {vs : List D} (e : sub c c' = some false) : hdl sub (⟨c', i, fh⟩ :: l) ⟨c, ns, vs⟩ ρ s QF EE = hdl sub l ⟨c, ns, vs⟩ ρ s QF EE := x_hdl_no e
theorem e_lookup1 {f : Str} {v : D} : (([f].zip [v]).lookup f) = some v := by simp
theorem e_le1000_1 : ((0 : Nat) + 1 ≤ 1000) = True := eq_true (by decide)
end
end DL
namespace DL
def runs_sp_refused := And.intro @x_hdl_y (And.intro @x_hdl_n (And.intro @e_lookup1 (@e_le1000_1)))
end DL
namespace DL
open PySem L2
section
variable {s : S} {Q : D → S → Prop} {E : Ex → S → Prop} {ks : List KD}
inductive FBad where
  | many | twice (n : Str) | base (b : Str)
def FBad.ex : FBad → Ex
  | .many => ⟨"TooMany", ["what"], [.str "kinds"]⟩
  | .twice n => ⟨"Twice", ["name"], [.str n]⟩
  | .base b => ⟨"NoBase", ["base"], [.str b]⟩
def FBad.row : FBad → D
  | .many => .tup [.str "many", .str "kinds"]
  | .twice n => .tup [.str "twice", .str n]
  | .base b => .tup [.str "base", .str b]
end
end DL
namespace DL
open PySem L2
def chkF (P : Str → Prop) : List KD → Prop
  | [] => True
  | k :: r => ¬ P k.name ∧ (∀ b, k.base = some b → P b) ∧ chkF (fun z => P z ∨ z = k.name) r
theorem chk_cons {P : Str → Prop} {k : KD} {r : List KD} : chkF P (k :: r) ↔ ¬ P k.name ∧ (∀ b, k.base = some b → P b) ∧ chkF (fun z => P z ∨ z = k.name) r := Iff.rfl
def addP (P : Str → Prop) (ns : List Str) : Str → Prop := fun z => P z ∨ z ∈ ns
theorem addP_nil {P : Str → Prop} : addP P [] = P := funext fun z => propext (by simp [addP])
theorem addP_cons {P : Str → Prop} {n : Str} {ns : List Str} : addP (fun z => P z ∨ z = n) ns = addP P (n :: ns) := funext fun z => propext (by simp [addP, or_assoc])
theorem chk_app : ∀ {xs ys : List KD} {P : Str → Prop}, chkF P (xs ++ ys) ↔ chkF P xs ∧ chkF (addP P (xs.map KD.name)) ys
  | [], ys, P => by simp [chkF, addP_nil]
  | k :: xs, ys, P => by
    rw [List.cons_append, chk_cons, chk_cons, chk_app, addP_cons, List.map_cons]
    constructor
    · rintro ⟨h1, h2, h3, h4⟩; exact ⟨⟨h1, h2, h3⟩, h4⟩
    · rintro ⟨⟨h1, h2, h3⟩, h4⟩; exact ⟨h1, h2, h3, h4⟩
theorem chk_iff : ∀ {ks : List KD} {P : Str → Prop}, chkF P ks ↔ ∀ i (h : i < ks.length), ¬ addP P ((ks.take i).map KD.name) ks[i].name ∧ ∀ b, ks[i].base = some b → addP P ((ks.take i).map KD.name) b
  | [], P => ⟨fun _ i h => absurd h (Nat.not_lt_zero i), fun _ => trivial⟩
  | k :: ks, P => by
    rw [chk_cons, chk_iff]
    constructor
    · rintro ⟨h1, h2, h3⟩ i h
      cases i with
      | zero => simp only [List.take_zero, List.map_nil, addP_nil, List.getElem_cons_zero]; exact ⟨h1, h2⟩
      | succ i =>
        have := h3 i (by simpa using h)
        rw [addP_cons] at this
        simp only [List.take_succ_cons, List.map_cons, List.getElem_cons_succ]
        exact this
    · intro h
      have h0 := h 0 (by simp)
      simp only [List.take_zero, List.map_nil, addP_nil, List.getElem_cons_zero] at h0
      refine ⟨h0.1, h0.2, fun i hi => ?_⟩
      have := h (i + 1) (by simpa using hi)
      simp only [List.take_succ_cons, List.map_cons, List.getElem_cons_succ] at this
      rw [addP_cons]; exact this
theorem famGood_iff {ks : List KD} : FamGood ks ↔ ks.length ≤ 16 ∧ (∀ k ∈ ks, k.Good) ∧ chkF (fun _ => False) ks := by
  rw [chk_iff]
  constructor
  · intro g
    refine ⟨g.most, g.good, fun i h => ⟨fun z => ?_, fun b hb => .inr ?_⟩⟩
    · rcases z with z | z
      · exact z
      · exact kindAt_none.mp (g.once i h) z
    · refine Classical.byContradiction fun z => ?_
      exact g.base i h b hb (kindAt_none.mpr z)
  · rintro ⟨h1, h2, h3⟩
    refine ⟨h1, h2, fun i h => kindAt_none.mpr fun z => (h3 i h).1 (.inr z), fun i h b hb z => ?_⟩
    rcases (h3 i h).2 b hb with q | q
    · exact q
    · exact kindAt_none.mp z q
theorem chk_more {n : Str} : ∀ {ys : List KD} {P : Str → Prop}, chkF P ys → n ∉ ys.map KD.name → chkF (fun z => P z ∨ z = n) ys
  | [], _, _, _ => trivial
  | k :: ys, P, h, hn => by
    rw [chk_cons] at h ⊢
    obtain ⟨h1, h2, h3⟩ := h
    rw [List.map_cons, List.mem_cons] at hn
    refine ⟨fun z => ?_, fun b hb => .inl (h2 b hb), ?_⟩
    · rcases z with z | z
      · exact h1 z
      · exact hn (.inl z.symm)
    · have e : (fun z => (P z ∨ z = n) ∨ z = k.name) = fun z => (P z ∨ z = k.name) ∨ z = n := funext fun z => propext ⟨fun h => by rcases h with (h | h) | h <;> simp [h], fun h => by rcases h with (h | h) | h <;> simp [h]⟩
      rw [e]
      exact chk_more h3 fun z => hn (.inr z)
theorem FamGood.ins {ks : List KD} {k : KD} {i : Nat} (g : FamGood ks) (hl : ks.length < 16) (hk : k.Good) (hn : k.name ∉ ks.map KD.name) (hb : ∀ b, k.base = some b → b ∈ (ks.take i).map KD.name) : FamGood (ks.take i ++ [k] ++ ks.drop i) := by
  obtain ⟨g1, g2, g3⟩ := famGood_iff.mp g
  have e : ks = ks.take i ++ ks.drop i := (List.take_append_drop i ks).symm
  refine famGood_iff.mpr ⟨by simp; omega, fun x hx => ?_, ?_⟩
  · simp only [List.append_assoc, List.cons_append, List.nil_append, List.mem_append, List.mem_cons] at hx
    rcases hx with h | h | h
    · exact g2 x (List.mem_of_mem_take h)
    · rw [h]; exact hk
    · exact g2 x (List.mem_of_mem_drop h)
  · have g4 := g3
    rw [e, chk_app] at g4
    rw [List.append_assoc, chk_app]
    refine ⟨g4.1, ?_⟩
    have n1 : k.name ∉ (ks.take i).map KD.name := fun z => hn (by rw [e, List.map_append]; exact List.mem_append_left _ z)
    have n2 : k.name ∉ (ks.drop i).map KD.name := fun z => hn (by rw [e, List.map_append]; exact List.mem_append_right _ z)
    refine ⟨fun z => ?_, fun b h => .inr (hb b h), chk_more g4.2 n2⟩
    rcases z with z | z
    · exact z
    · exact n1 z
end DL
namespace DL
open PySem L2
section
variable {s : S} {Q : D → S → Prop} {E : Ex → S → Prop} {m : MkD} {ks : List KD} {nm : Str} {k : KD} {l : List KD} {d : D}
inductive Chain (ks : List KD) : KD → List KD → Prop
  | root {k : KD} : k.base = none → Chain ks k [k]
  | up {k k' : KD} {b : Str} {l : List KD} : k.base = some b → kindAt ks b = some k' → Chain ks k' l → Chain ks k (k :: l)
theorem Chain.ne (h : Chain ks k l) : l ≠ [] := by cases h <;> simp
end
end DL
namespace DL
open PySem L2
section
variable {s : S} {Q : D → S → Prop} {E : Ex → S → Prop} {m : MkD} {r : Addr}
def MkD.set (m : MkD) : Nat → Str → MkD
  | 0, c => { m with place := c }
  | 1, c => { m with key := c }
  | 2, c => { m with store := c }
  | 3, c => { m with stopped := c }
  | 4, c => { m with fits := c }
  | 5, c => { m with misfit := c }
  | 6, c => { m with compare := c }
  | 7, c => { m with unlike := c }
  | 8, c => { m with unready := c }
  | _, c => { m with again := c }
structure ChOk (p : Str × Str) : Prop where
  ex : ∃ chs : List Str, t_CHOICES.lookup p.1 = some (.tup (chs.map .str)) ∧ p.2 ∈ chs ∧ p.2.length ≤ sizeLine
theorem Chs.all : ∀ {ps : List (Str × Str)}, Chs ps → ∀ p ∈ ps, ChOk p
  | _, .nil, _, h => by cases h
  | _, .cons chs h1 h2 h3 h, p, hp => by
    rcases List.mem_cons.mp hp with rfl | hp
    · exact ⟨chs, h1, h2, h3⟩
    · exact h.all p hp
theorem Chs.of : ∀ {ps : List (Str × Str)}, (∀ p ∈ ps, ChOk p) → Chs ps
  | [], _ => .nil
  | p :: ps, h => by
    obtain ⟨chs, h1, h2, h3⟩ := h p List.mem_cons_self
    obtain ⟨x, y⟩ := p
    exact .cons chs h1 h2 h3 (Chs.of fun q hq => h q (List.mem_cons_of_mem _ hq))
theorem rcs_at {i : Nat} (h : i < 10) : RcOk (ruleL[i]'h, chL[i]'h) := by
  refine rcs_ok _ ?_
  unfold rcs
  rw [List.mem_iff_getElem]
  exact ⟨i, by rw [List.length_zip]; exact h, List.getElem_zip⟩
theorem rule_in {i : Nat} (h : i < 10) : decide (ruleL[i]'h ∈ t_CHOICES.map (·.1)) = true := by
  have : ∀ p ∈ ruleL, decide (p ∈ t_CHOICES.map (·.1)) = true := by decide +kernel
  exact this _ (List.getElem_mem _)
theorem strKV_zip : strKV (ruleL.zip m.list) = (ruleL.map Sum.inr).zip (m.list.map .str) := rfl
theorem ruleL_nd : ruleL.Nodup := by decide +kernel
theorem zip_src : zipSrc s [cc_Maker_RULES, m.row] = some ⟨(ruleL.zip m.list).map fun p => .tup [.str p.1, .str p.2], fun _ => True⟩ := rfl
theorem drop_rt {t : Addr} {k1 k2 : List (Key × D)} (hr : s.map r = none) (ht : (s.set r (.dic k1)).map t = none) : dropO (some (some (.ref t))) (dropO (some (some (.ref r))) ((s.set r (.dic k1)).set t (.dic k2))) = s := by
  have hne : r ≠ t := by rintro rfl; rw [S.set_same] at ht; cases ht
  have ht2 : s.map t = none := by rw [S.set_ne (Ne.symm hne)] at ht; exact ht
  have e1 : dropO (some (some (.ref r))) ((s.set r (.dic k1)).set t (.dic k2)) = s.set t (.dic k2) := by
    unfold dropO
    simp only [S.set_ne hne, S.set_same]
    exact del_two hr ht
  rw [e1]
  unfold dropO
  simp only [S.set_same]
  exact S.del_set ht2
theorem find_rule {i : Nat} (h : i < 10) : (ruleL.zip m.list).find? (fun p => decide (p.1 = ruleL[i]'h)) = some (ruleL[i]'h, m.list[i]'h) := by
  match i, h with
  | 0, _ => rfl
  | 1, _ => rfl
  | 2, _ => rfl
  | 3, _ => rfl
  | 4, _ => rfl
  | 5, _ => rfl
  | 6, _ => rfl
  | 7, _ => rfl
  | 8, _ => rfl
  | 9, _ => rfl
theorem Maker_choice_wp {i : Nat} (h : i < 10) (q : Q (.str (m.list[i]'h)) s) : d_Maker_choice [m.ins, .str (ruleL[i]'h)] s Q E := by
  unfold d_Maker_choice b_Maker_choice
  simp -implicitDefEqProofs -failIfUnchanged only [word_snoc, DL.runs_D14, DL.runs_D15, DL.runs_D16, DL.runs_D17, DL.runs_D19, DL.runs_D20, DL.runs_D23, DL.runs_D24, DL.runs_D25, DL.runs_D26, DL.runs_D31, DL.runs_D34, DL.runs_D36, DL.runs_D38, DL.runs_D43, DL.runs_D45, DL.runs_mir, DL.runs_sp_exec, DL.runs_sp_fam2, DL.runs_sp_lit, DL.runs_sp_like2, DL.runs_sp_terms, DL.runs_sp_putn, DL.runs_sp_refused, Nat.reduceSub, Nat.reduceAdd, Nat.reduceLT, true_and]
  refine ⟨_, rfl, ?_⟩
  refine Maker_written_wp ?_
  simp -implicitDefEqProofs -failIfUnchanged only [word_snoc, DL.runs_D14, DL.runs_D15, DL.runs_D16, DL.runs_D17, DL.runs_D19, DL.runs_D20, DL.runs_D23, DL.runs_D24, DL.runs_D25, DL.runs_D26, DL.runs_D31, DL.runs_D34, DL.runs_D36, DL.runs_D38, DL.runs_D43, DL.runs_D45, DL.runs_mir, DL.runs_sp_exec, DL.runs_sp_fam2, DL.runs_sp_lit, DL.runs_sp_like2, DL.runs_sp_terms, DL.runs_sp_putn, DL.runs_sp_refused, Nat.reduceSub, Nat.reduceAdd, Nat.reduceLT, true_and, zip_src]
  refine loop_test (fun p : Str × Str => D.tup [.str p.1, .str p.2]) (fun ρ => ∃ o2 o3, ρ = [some m.ins, some (.str (ruleL[i]'h)), o2, o3]) (fun p => !decide (p.1 = ruleL[i]'h)) (fun p => .str p.2) _ _ trivial ⟨_, _, rfl⟩ (fun p hp ρ hρ => ?_) (fun ha => ?_) fun p hp => ?_
  · obtain ⟨o2, o3, rfl⟩ := hρ
    refine ⟨_, rfl, ?_⟩
    simp -implicitDefEqProofs -failIfUnchanged only [word_snoc, DL.runs_D14, DL.runs_D15, DL.runs_D16, DL.runs_D17, DL.runs_D19, DL.runs_D20, DL.runs_D23, DL.runs_D24, DL.runs_D25, DL.runs_D26, DL.runs_D31, DL.runs_D34, DL.runs_D36, DL.runs_D38, DL.runs_D43, DL.runs_D45, DL.runs_mir, DL.runs_sp_exec, DL.runs_sp_fam2, DL.runs_sp_lit, DL.runs_sp_like2, DL.runs_sp_terms, DL.runs_sp_putn, DL.runs_sp_refused, Nat.reduceSub, Nat.reduceAdd, Nat.reduceLT, true_and]
    refine selB_of (fun e => .inr ⟨by simpa using e, trivial⟩) fun e => .inl ⟨by simpa using e, _, rfl, _, _, rfl⟩
  · have := ha _ (List.mem_of_find?_eq_some (find_rule (m := m) h))
    simp at this
  · have e : (fun y : Str × Str => !!decide (y.1 = ruleL[i]'h)) = fun p => decide (p.1 = ruleL[i]'h) := by funext y; rw [Bool.not_not]
    rw [e, find_rule h] at hp
    cases hp
    simp -implicitDefEqProofs -failIfUnchanged only [word_snoc, DL.runs_D14, DL.runs_D15, DL.runs_D16, DL.runs_D17, DL.runs_D19, DL.runs_D20, DL.runs_D23, DL.runs_D24, DL.runs_D25, DL.runs_D26, DL.runs_D31, DL.runs_D34, DL.runs_D36, DL.runs_D38, DL.runs_D43, DL.runs_D45, DL.runs_mir, DL.runs_sp_exec, DL.runs_sp_fam2, DL.runs_sp_lit, DL.runs_sp_like2, DL.runs_sp_terms, DL.runs_sp_putn, DL.runs_sp_refused, Nat.reduceSub, Nat.reduceAdd, Nat.reduceLT, true_and]
    exact q
theorem Maker_choices_wp {i : Nat} (h : i < 10) (q : Q (.tup ((chL[i]'h).map .str)) s) : d_Maker_choices [.str (ruleL[i]'h)] s Q E := by
  unfold d_Maker_choices b_Maker_choices
  simp -implicitDefEqProofs -failIfUnchanged only [word_snoc, DL.runs_D14, DL.runs_D15, DL.runs_D16, DL.runs_D17, DL.runs_D19, DL.runs_D20, DL.runs_D23, DL.runs_D24, DL.runs_D25, DL.runs_D26, DL.runs_D31, DL.runs_D34, DL.runs_D36, DL.runs_D38, DL.runs_D43, DL.runs_D45, DL.runs_mir, DL.runs_sp_exec, DL.runs_sp_fam2, DL.runs_sp_lit, DL.runs_sp_like2, DL.runs_sp_terms, DL.runs_sp_putn, DL.runs_sp_refused, Nat.reduceSub, Nat.reduceAdd, Nat.reduceLT, true_and, rule_in h, (rcs_at h).at_, Bool.xor_true, Bool.not_true]
  exact q
theorem eqB_T {as bs : List Str} (ha : ∀ c ∈ as, PyData.strOk c = true) (hb : ∀ c ∈ bs, PyData.strOk c = true) : eqB s (.tup (as.map .str)) (.tup (bs.map .str)) = some (decide (as = bs)) := by
  have h : (eqB s (.tup (as.map .str)) (.tup (bs.map .str))).map D.bl = some (.bl (decide (as = bs))) := eq_strs ha hb
  obtain ⟨b, h1, h2⟩ := Option.map_eq_some_iff.mp h
  rw [h1]
  exact congrArg some (D.bl.inj h2)
theorem neD_of {x y : D} {b : Bool} (h : eqB s x y = some b) : neD x y s = some (.bl (!b)) := by unfold neD; rw [h]; rfl
theorem list_ok (g : m.Good) : ∀ c ∈ m.list, PyData.strOk c = true := okEs_strs.mp (MkD.ok g)
theorem ch_ok {i : Nat} (h : i < 10) : ∀ c ∈ chL[i]'h, PyData.strOk c = true := by
  have : ∀ l ∈ chL, ∀ c ∈ l, PyData.strOk c = true := by decide +kernel
  exact this _ (List.getElem_mem _)
theorem rcs_fsts : (rcs.map fun p => D.str p.1) = ruleL.map .str := by
  refine List.ext_getElem rfl fun i h1 h2 => ?_
  have hi : i < rcs.length := by rw [List.length_map] at h1; exact h1
  rw [List.getElem_map, List.getElem_map, rcs_fst hi hi]; rfl
theorem rcs_all {g : (Str × List Str) → D} : (rcs.filter fun _ => true).map g = rcs.map g := by rw [List.filter_eq_self.mpr (fun _ _ => rfl)]
end
end DL
namespace DL
open PySem L2
section
variable {s : S} {Q : D → S → Prop} {E : Ex → S → Prop} {m m' : MkD} {ks : List KD}
abbrev RM := _root_.Fin 10 × Str
def RM.rule (p : RM) : Str := ruleL[p.1.1]'p.1.2
def RM.d (p : RM) : D := .tup [.str "rule", .str p.rule, .str p.2]
def RM.on (m : MkD) (p : RM) : MkD := m.set p.1.1 p.2
def RM.all (m : MkD) (ps : List RM) : MkD := ps.foldl RM.on m
end
end DL
namespace DL
open PySem L2
section
variable {s : S} {Q : D → S → Prop} {E : Ex → S → Prop} {a : Addr} {ds : List D} {m : MkD}
def rkv (ds : List D) : List (Key × D) := (ruleL.map Sum.inr).zip ds
def fwL : List ((Str × List Str) × D) → Option (Str × D)
  | [] => none
  | (p, d) :: r => if isChD p.2 d = true then fwL r else some (p.1, d)
def fwD : Option (Str × D) → D
  | none => .non
  | some (r, d) => .tup [.str r, d]
def fw (ds : List D) : Option (Str × D) := fwL (rcs.zip ds)
def wrongX (r : Str) (d : D) : Ex := ⟨"BadChoice", ["given", "rule"], [d, .str r]⟩
theorem loop_any {QF : Fl → S → Prop} {EE : Ex × Env → S → Prop} {x0 x1 x2 x3 x4 x5 x6 x7 x8 x9 x10 x11 : Option D} : ∀ {ps : List ((Str × List Str) × D)} {o1 o2 : Option D}, (∀ p ∈ ps, p.1 ∈ rcs ∧ flat p.2 = true) →
    (fwL ps = none → ∀ o1 o2, QF (.nx [x0, x1, x2, x3, x4, x5, x6, x7, x8, x9, x10, x11, o1, o2]) s) → (∀ r d ρ, fwL ps = some (r, d) → EE (wrongX r d, ρ) s) →
    loopS (fun _ => True) (toTup 2 (toCons (toName 12) (toCons (toName 13) toNil))) (ifS (notT (liftT (callE f_is_choice_2 (argsC (var 12) (argsC (var 13) argsN)) argsN))) (raiseS "BadChoice" ["rule", "given"] (argsC (var 12) (argsC (var 13) argsN))) nilS)
      (ps.map fun p => .tup [.str p.1.1, p.2]) [x0, x1, x2, x3, x4, x5, x6, x7, x8, x9, x10, x11, o1, o2] s QF EE
  | [], o1, o2, _, q, _ => ⟨trivial, q rfl _ _⟩
  | (p, d) :: ps, o1, o2, h, q, e => by
    rw [List.map_cons, x_loop_cons]
    refine ⟨trivial, _, rfl, ?_⟩
    simp -implicitDefEqProofs -failIfUnchanged only [word_snoc, DL.runs_D14, DL.runs_D15, DL.runs_D16, DL.runs_D17, DL.runs_D19, DL.runs_D20, DL.runs_D23, DL.runs_D24, DL.runs_D25, DL.runs_D26, DL.runs_D31, DL.runs_D34, DL.runs_D36, DL.runs_D38, DL.runs_D43, DL.runs_D45, DL.runs_mir, DL.runs_sp_exec, DL.runs_sp_fam2, DL.runs_sp_lit, DL.runs_sp_like2, DL.runs_sp_terms, DL.runs_sp_putn, DL.runs_sp_refused, Nat.reduceSub, Nat.reduceAdd, Nat.reduceLT, true_and]
    obtain ⟨h1, h2⟩ := h _ List.mem_cons_self
    refine is_choice_wp (rcs_ok p h1).at_ h2 ?_
    cases c : isChD p.2 d with
    | true =>
      simp -implicitDefEqProofs -failIfUnchanged only [word_snoc, DL.runs_D14, DL.runs_D15, DL.runs_D16, DL.runs_D17, DL.runs_D19, DL.runs_D20, DL.runs_D23, DL.runs_D24, DL.runs_D25, DL.runs_D26, DL.runs_D31, DL.runs_D34, DL.runs_D36, DL.runs_D38, DL.runs_D43, DL.runs_D45, DL.runs_mir, DL.runs_sp_exec, DL.runs_sp_fam2, DL.runs_sp_lit, DL.runs_sp_like2, DL.runs_sp_terms, DL.runs_sp_putn, DL.runs_sp_refused, Nat.reduceSub, Nat.reduceAdd, Nat.reduceLT, true_and]
      refine loop_any (fun x hx => h x (List.mem_cons_of_mem _ hx)) (fun n => q ?_) fun r d' ρ n => e r d' ρ ?_
      · show (if isChD p.2 d = true then fwL ps else _) = _
        rw [if_pos c]; exact n
      · show (if isChD p.2 d = true then fwL ps else _) = _
        rw [if_pos c]; exact n
    | false =>
      simp -implicitDefEqProofs -failIfUnchanged only [word_snoc, DL.runs_D14, DL.runs_D15, DL.runs_D16, DL.runs_D17, DL.runs_D19, DL.runs_D20, DL.runs_D23, DL.runs_D24, DL.runs_D25, DL.runs_D26, DL.runs_D31, DL.runs_D34, DL.runs_D36, DL.runs_D38, DL.runs_D43, DL.runs_D45, DL.runs_mir, DL.runs_sp_exec, DL.runs_sp_fam2, DL.runs_sp_lit, DL.runs_sp_like2, DL.runs_sp_terms, DL.runs_sp_putn, DL.runs_sp_refused, Nat.reduceSub, Nat.reduceAdd, Nat.reduceLT, true_and]
      refine e _ _ _ ?_
      show (if isChD p.2 d = true then fwL ps else _) = _
      rw [if_neg (by rw [c]; decide)]
theorem ten (h : ds.length = 10) : ∃ d0 d1 d2 d3 d4 d5 d6 d7 d8 d9, ds = [d0, d1, d2, d3, d4, d5, d6, d7, d8, d9] := by
  match ds, h with
  | [d0, d1, d2, d3, d4, d5, d6, d7, d8, d9], _ => exact ⟨_, _, _, _, _, _, _, _, _, _, rfl⟩
theorem rcs_zip_ok {ds : List D} (g : ∀ d ∈ ds, flat d = true) : ∀ p ∈ rcs.zip ds, p.1 ∈ rcs ∧ flat p.2 = true := fun p hp => ⟨(List.of_mem_zip hp).1, g _ (List.of_mem_zip hp).2⟩
theorem fw_none : ∀ {ps : List (Str × List Str)} {ds : List D}, ps.length = ds.length → fwL (ps.zip ds) = none → ∃ cs : List Str, cs.length = ps.length ∧ ds = cs.map .str ∧ ∀ q ∈ ps.zip cs, q.2 ∈ q.1.2
  | [], [], _, _ => ⟨[], rfl, rfl, fun _ h => by cases h⟩
  | p :: ps, d :: ds, hl, h => by
    have h : (if isChD p.2 d = true then fwL (ps.zip ds) else some (p.1, d)) = none := h
    cases c : isChD p.2 d with
    | false => rw [if_neg (by rw [c]; decide)] at h; cases h
    | true =>
      rw [if_pos c] at h
      obtain ⟨cs, h1, h2, h3⟩ := fw_none (Nat.succ.inj hl) h
      cases d with
      | str z =>
        refine ⟨z :: cs, by rw [List.length_cons, List.length_cons, h1], by rw [h2]; rfl, fun q hq => ?_⟩
        rcases List.mem_cons.mp hq with rfl | hq
        · exact of_decide_eq_true c
        · exact h3 q hq
      | _ => cases c
theorem fw_good (hl : ds.length = 10) (h : fw ds = none) : ∃ m : MkD, m.Good ∧ ds = m.list.map .str := by
  obtain ⟨cs, h1, rfl, h3⟩ := fw_none (ps := rcs) (ds := ds) (by rw [hl]; rfl) h
  match cs, h1 with
  | [c0, c1, c2, c3, c4, c5, c6, c7, c8, c9], _ =>
    refine ⟨⟨c0, c1, c2, c3, c4, c5, c6, c7, c8, c9⟩, Chs.of fun p hp => ?_, rfl⟩
    obtain ⟨j, hj, rfl⟩ := List.getElem_of_mem hp
    have hj' : j < 10 := by simpa [ruleL, MkD.list] using hj
    rw [List.getElem_zip]
    have k := rcs_at hj'
    have hm : ((ruleL[j]'hj', chL[j]'hj'), [c0, c1, c2, c3, c4, c5, c6, c7, c8, c9][j]'hj') ∈ rcs.zip [c0, c1, c2, c3, c4, c5, c6, c7, c8, c9] := by
      rw [List.mem_iff_getElem]
      exact ⟨j, by rw [List.length_zip]; exact hj', by rw [List.getElem_zip]; unfold rcs; rw [List.getElem_zip]; rfl⟩
    have hc := h3 _ hm
    exact ⟨_, k.at_, hc, k.short _ hc⟩
theorem fw_of (g : m.Good) : fw (m.list.map .str) = none := by
  have all : ∀ {ps : List (Str × List Str)} {cs : List Str}, (∀ q ∈ ps.zip cs, q.2 ∈ q.1.2) → fwL (ps.zip (cs.map .str)) = none := by
    intro ps
    induction ps with
    | nil => intro cs _; rfl
    | cons p ps ih =>
      intro cs h
      cases cs with
      | nil => rfl
      | cons c cs =>
        show (if decide (c ∈ p.2) = true then fwL (ps.zip (cs.map .str)) else _) = none
        rw [if_pos (decide_eq_true (h _ List.mem_cons_self))]
        exact ih fun q hq => h q (List.mem_cons_of_mem _ hq)
  refine all fun q hq => ?_
  obtain ⟨j, hj, rfl⟩ := List.getElem_of_mem hq
  have hj' : j < 10 := by simpa [rcs, ruleL, chL, MkD.list] using hj
  have hm : (ruleL[j]'hj', m.list[j]'hj') ∈ ruleL.zip m.list := by
    rw [List.mem_iff_getElem]
    exact ⟨j, by simpa [ruleL, MkD.list] using hj', by rw [List.getElem_zip]; rfl⟩
  obtain ⟨⟨chs, h3, h4, h5⟩⟩ := Chs.all g _ hm
  have k := (rcs_at hj').at_
  have e := h3.symm.trans k
  have e2 := D.tup.inj (Option.some.inj e)
  have e3 : chs = chL[j]'hj' := (List.map_inj_right (fun _ _ e => D.str.inj e)).mp e2
  rw [List.getElem_zip]
  have e4 : (rcs[j]'(by simpa [rcs, ruleL, chL] using hj')).2 = chL[j]'hj' := by unfold rcs; rw [List.getElem_zip]; rfl
  show _ ∈ (rcs[j]'_).2
  rw [e4, ← e3]
  exact h4
theorem init_any (hl : ds.length = 10) (g : ∀ d ∈ ds, flat d = true) (q : ∀ m : MkD, m.Good → ds = m.list.map .str → Q .non (s.set a (.ins "Maker" ([("place", .str m.place), ("key", .str m.key), ("store", .str m.store), ("stopped", .str m.stopped), ("fits", .str m.fits), ("misfit", .str m.misfit), ("compare", .str m.compare), ("unlike", .str m.unlike), ("unready", .str m.unready), ("again", .str m.again)] : List (Str × D)))))
    (e : ∀ r d, fw ds = some (r, d) → E (wrongX r d) (s.set a (.ins "Maker" []))) :
    d_Maker_init (.ref a :: ds) (s.set a (.ins "Maker" [])) Q E := by
  cases c : fw ds with
  | none =>
    obtain ⟨m, gm, hd⟩ := fw_good hl c
    subst hd
    exact Maker_init_wp gm (q m gm rfl)
  | some p =>
    obtain ⟨r, d⟩ := p
    obtain ⟨d0, d1, d2, d3, d4, d5, d6, d7, d8, d9, rfl⟩ := ten hl
    unfold d_Maker_init b_Maker_init
    have hz : ∀ s, zipSrc s [cc_Maker_RULES, .tup [d0, d1, d2, d3, d4, d5, d6, d7, d8, d9]] = some ⟨(rcs.zip [d0, d1, d2, d3, d4, d5, d6, d7, d8, d9]).map fun p => .tup [.str p.1.1, p.2], fun _ => True⟩ := fun _ => rfl
    simp -implicitDefEqProofs -failIfUnchanged only [word_snoc, DL.runs_D14, DL.runs_D15, DL.runs_D16, DL.runs_D17, DL.runs_D19, DL.runs_D20, DL.runs_D23, DL.runs_D24, DL.runs_D25, DL.runs_D26, DL.runs_D31, DL.runs_D34, DL.runs_D36, DL.runs_D38, DL.runs_D43, DL.runs_D45, DL.runs_mir, DL.runs_sp_exec, DL.runs_sp_fam2, DL.runs_sp_lit, DL.runs_sp_like2, DL.runs_sp_terms, DL.runs_sp_putn, DL.runs_sp_refused, Nat.reduceSub, Nat.reduceAdd, Nat.reduceLT, true_and, hz]
    refine loop_any (rcs_zip_ok g) (fun n => ?_) fun r' d' ρ n => ?_
    · exact absurd (n.symm.trans c) (by simp)
    · have n : fw [d0, d1, d2, d3, d4, d5, d6, d7, d8, d9] = some (r', d') := n
      rw [c] at n
      cases n
      exact e _ _ c
theorem rkv_val (hl : ds.length = 10) {i : Nat} (h : i < 10) : valD (rkv ds) (.inr (ruleL[i]'h)) = some (ds[i]'(by omega)) := by
  obtain ⟨d0, d1, d2, d3, d4, d5, d6, d7, d8, d9, rfl⟩ := ten hl
  match i, h with
  | 0, _ => rfl
  | 1, _ => rfl
  | 2, _ => rfl
  | 3, _ => rfl
  | 4, _ => rfl
  | 5, _ => rfl
  | 6, _ => rfl
  | 7, _ => rfl
  | 8, _ => rfl
  | 9, _ => rfl
theorem rkv_put (hl : ds.length = 10) {i : Nat} (h : i < 10) {d : D} : putKD (rkv ds) (.inr (ruleL[i]'h)) d = rkv (ds.set i d) := by
  obtain ⟨d0, d1, d2, d3, d4, d5, d6, d7, d8, d9, rfl⟩ := ten hl
  match i, h with
  | 0, _ => rfl
  | 1, _ => rfl
  | 2, _ => rfl
  | 3, _ => rfl
  | 4, _ => rfl
  | 5, _ => rfl
  | 6, _ => rfl
  | 7, _ => rfl
  | 8, _ => rfl
  | 9, _ => rfl
theorem rkv_get (ha : s.map a = some (.dic (rkv ds))) (hl : ds.length = 10) {i : Nat} (h : i < 10) : dgetD (.ref a) (.str (ruleL[i]'h)) s = some (ds[i]'(by omega)) := by
  unfold dgetD
  rw [dicOf_at ha]
  exact rkv_val hl h
theorem rules03_wp {b c : Addr} (hb : s.map b = some (.bag c)) (q : ∀ (m : MkD) (a : Addr), m.Good → s.map a = none → Q (.ref a) (s.set a (.dic (rkv (m.list.map .str))))) : d_rules [.ref b] s Q E := by
  unfold d_rules b_rules
  simp -implicitDefEqProofs -failIfUnchanged only [word_snoc, DL.runs_D14, DL.runs_D15, DL.runs_D16, DL.runs_D17, DL.runs_D19, DL.runs_D20, DL.runs_D23, DL.runs_D24, DL.runs_D25, DL.runs_D26, DL.runs_D31, DL.runs_D34, DL.runs_D36, DL.runs_D38, DL.runs_D43, DL.runs_D45, DL.runs_mir, DL.runs_sp_exec, DL.runs_sp_fam2, DL.runs_sp_lit, DL.runs_sp_like2, DL.runs_sp_terms, DL.runs_sp_putn, DL.runs_sp_refused, Nat.reduceSub, Nat.reduceAdd, Nat.reduceLT, true_and]
  intro a ha
  refine table_wp ?_
  unfold tableD
  simp -implicitDefEqProofs -failIfUnchanged only [word_snoc, DL.runs_D14, DL.runs_D15, DL.runs_D16, DL.runs_D17, DL.runs_D19, DL.runs_D20, DL.runs_D23, DL.runs_D24, DL.runs_D25, DL.runs_D26, DL.runs_D31, DL.runs_D34, DL.runs_D36, DL.runs_D38, DL.runs_D43, DL.runs_D45, DL.runs_mir, DL.runs_sp_exec, DL.runs_sp_fam2, DL.runs_sp_lit, DL.runs_sp_like2, DL.runs_sp_terms, DL.runs_sp_putn, DL.runs_sp_refused, Nat.reduceSub, Nat.reduceAdd, Nat.reduceLT, true_and, ite_src (show (rcs.map fun p => D.tup [.str p.1, .tup (p.2.map .str)]).length ≤ sizeLine by decide)]
  refine rules_loop hb ha (acc := []) (ps := rcs) (by decide) (by decide) rcs_ok .nil fun cs o' h1 h2 => ?_
  obtain ⟨m, rfl⟩ := mk_of_list (cs := cs) (by rw [h2]; rfl)
  simp -implicitDefEqProofs -failIfUnchanged only [word_snoc, DL.runs_D14, DL.runs_D15, DL.runs_D16, DL.runs_D17, DL.runs_D19, DL.runs_D20, DL.runs_D23, DL.runs_D24, DL.runs_D25, DL.runs_D26, DL.runs_D31, DL.runs_D34, DL.runs_D36, DL.runs_D38, DL.runs_D43, DL.runs_D45, DL.runs_mir, DL.runs_sp_exec, DL.runs_sp_fam2, DL.runs_sp_lit, DL.runs_sp_like2, DL.runs_sp_terms, DL.runs_sp_putn, DL.runs_sp_refused, Nat.reduceSub, Nat.reduceAdd, Nat.reduceLT, true_and]
  exact q m a h1 ha
theorem maker_any (ha : s.map a = some (.dic (rkv ds))) (hl : ds.length = 10) (g : ∀ d ∈ ds, flat d = true) (q : ∀ m : MkD, m.Good → ds = m.list.map .str → Q m.ins s)
    (e : ∀ r d b, fw ds = some (r, d) → s.map b = none → E (wrongX r d) (s.set b (.ins "Maker" []))) : d_maker [.ref a] s Q E := by
  unfold d_maker b_maker
  simp -implicitDefEqProofs -failIfUnchanged only [word_snoc, DL.runs_D14, DL.runs_D15, DL.runs_D16, DL.runs_D17, DL.runs_D19, DL.runs_D20, DL.runs_D23, DL.runs_D24, DL.runs_D25, DL.runs_D26, DL.runs_D31, DL.runs_D34, DL.runs_D36, DL.runs_D38, DL.runs_D43, DL.runs_D45, DL.runs_mir, DL.runs_sp_exec, DL.runs_sp_fam2, DL.runs_sp_lit, DL.runs_sp_like2, DL.runs_sp_terms, DL.runs_sp_putn, DL.runs_sp_refused, Nat.reduceSub, Nat.reduceAdd, Nat.reduceLT, true_and]
  refine table_wp ?_
  unfold tableD
  simp -implicitDefEqProofs -failIfUnchanged only [word_snoc, DL.runs_D14, DL.runs_D15, DL.runs_D16, DL.runs_D17, DL.runs_D19, DL.runs_D20, DL.runs_D23, DL.runs_D24, DL.runs_D25, DL.runs_D26, DL.runs_D31, DL.runs_D34, DL.runs_D36, DL.runs_D38, DL.runs_D43, DL.runs_D45, DL.runs_mir, DL.runs_sp_exec, DL.runs_sp_fam2, DL.runs_sp_lit, DL.runs_sp_like2, DL.runs_sp_terms, DL.runs_sp_putn, DL.runs_sp_refused, Nat.reduceSub, Nat.reduceAdd, Nat.reduceLT, true_and, ite_src (show (rcs.map fun p => D.tup [.str p.1, .tup (p.2.map .str)]).length ≤ sizeLine by decide)]
  refine lc_inv (fun xs acc s' => s' = s ∧ ∃ i, i ≤ 10 ∧ xs = (rcs.map fun p => D.tup [.str p.1, .tup (p.2.map .str)]).drop i ∧ acc = ds.take i) _ _ _ ⟨rfl, 0, Nat.zero_le _, rfl, rfl⟩ ?_ ?_
  · rintro d xs acc s' ⟨rfl, i, hi, hd, rfl⟩
    refine ⟨trivial, ?_⟩
    have hi2 : i < 10 := by
      refine Nat.lt_of_le_of_ne hi fun e => ?_
      subst e
      cases hd
    rw [List.drop_eq_getElem_cons (show i < (rcs.map fun p => D.tup [.str p.1, .tup (p.2.map .str)]).length from hi2)] at hd
    obtain ⟨h1, h2⟩ := List.cons.inj hd
    subst h1 h2
    rw [List.getElem_map]
    refine ⟨_, rfl, ?_⟩
    have hi3 : i < rcs.length := hi2
    have e : (rcs[i]'hi3).1 = ruleL[i]'hi2 := rcs_fst hi3 hi2
    have hv : dgetD (.ref a) (.str (rcs[i]'hi3).1) s' = some (ds[i]'(by omega)) := by rw [e]; exact rkv_get ha hl hi2
    simp -implicitDefEqProofs -failIfUnchanged only [word_snoc, DL.runs_D14, DL.runs_D15, DL.runs_D16, DL.runs_D17, DL.runs_D19, DL.runs_D20, DL.runs_D23, DL.runs_D24, DL.runs_D25, DL.runs_D26, DL.runs_D31, DL.runs_D34, DL.runs_D36, DL.runs_D38, DL.runs_D43, DL.runs_D45, DL.runs_mir, DL.runs_sp_exec, DL.runs_sp_fam2, DL.runs_sp_lit, DL.runs_sp_like2, DL.runs_sp_terms, DL.runs_sp_putn, DL.runs_sp_refused, Nat.reduceSub, Nat.reduceAdd, Nat.reduceLT, true_and, hv]
    refine ⟨i + 1, hi2, rfl, ?_⟩
    rw [List.take_succ_eq_append_getElem (show i < ds.length by omega)]
  · rintro acc s' ⟨rfl, i, hi, hd, rfl⟩
    refine ⟨trivial, ?_⟩
    have e10 : i = 10 := by
      have h := congrArg List.length hd
      have h2 : (rcs.map fun p => D.tup [.str p.1, .tup (p.2.map .str)]).length = 10 := rfl
      rw [List.length_drop, h2] at h
      simp at h
      omega
    subst e10
    obtain ⟨d0, d1, d2, d3, d4, d5, d6, d7, d8, d9, rfl⟩ := ten hl
    have e2 : [d0, d1, d2, d3, d4, d5, d6, d7, d8, d9].take 10 = [d0, d1, d2, d3, d4, d5, d6, d7, d8, d9] := rfl
    rw [e2]
    simp -implicitDefEqProofs -failIfUnchanged only [word_snoc, DL.runs_D14, DL.runs_D15, DL.runs_D16, DL.runs_D17, DL.runs_D19, DL.runs_D20, DL.runs_D23, DL.runs_D24, DL.runs_D25, DL.runs_D26, DL.runs_D31, DL.runs_D34, DL.runs_D36, DL.runs_D38, DL.runs_D43, DL.runs_D45, DL.runs_mir, DL.runs_sp_exec, DL.runs_sp_fam2, DL.runs_sp_lit, DL.runs_sp_like2, DL.runs_sp_terms, DL.runs_sp_putn, DL.runs_sp_refused, Nat.reduceSub, Nat.reduceAdd, Nat.reduceLT, true_and]
    intro b hb
    refine init_any (ds := [d0, d1, d2, d3, d4, d5, d6, d7, d8, d9]) rfl g (fun m gm hd => ?_) fun r d n => e r d b n hb
    simp -implicitDefEqProofs -failIfUnchanged only [word_snoc, DL.runs_D14, DL.runs_D15, DL.runs_D16, DL.runs_D17, DL.runs_D19, DL.runs_D20, DL.runs_D23, DL.runs_D24, DL.runs_D25, DL.runs_D26, DL.runs_D31, DL.runs_D34, DL.runs_D36, DL.runs_D38, DL.runs_D43, DL.runs_D45, DL.runs_mir, DL.runs_sp_exec, DL.runs_sp_fam2, DL.runs_sp_lit, DL.runs_sp_like2, DL.runs_sp_terms, DL.runs_sp_putn, DL.runs_sp_refused, Nat.reduceSub, Nat.reduceAdd, Nat.reduceLT, true_and, hb]
    cases hd
    exact q m gm rfl
theorem fwL_find : ∀ {ps : List ((Str × List Str) × D)}, fwL ps = (ps.find? fun y => !isChD y.1.2 y.2).map fun y => (y.1.1, y.2)
  | [] => rfl
  | (p, d) :: ps => by
    show (if isChD p.2 d = true then fwL ps else some (p.1, d)) = _
    rw [List.find?_cons]
    cases c : isChD p.2 d with
    | true => rw [if_pos rfl, fwL_find]; rfl
    | false => rw [if_neg (by decide)]; rfl
theorem isi_str3 {cs : List Str} {d : D} (h : flat d = true) : isiD cs [d, .ty "str"] s = some (.bl (match d with | .str _ => true | _ => false)) := by
  cases d <;> first | rfl | cases h
theorem notin3 {z : Str} {cs : List Str} : notInD (.str z) (.tup (cs.map .str)) s = some (.bl (!decide (z ∈ cs))) := by
  have h := inB_strs (z := z) (s := s) (cs := cs)
  unfold inD at h
  unfold notInD
  obtain ⟨b, h1, h2⟩ := Option.map_eq_some_iff.mp h
  rw [h1]
  cases h2
  rfl
theorem first_wrong_any (ha : s.map a = some (.dic (rkv ds))) (hl : ds.length = 10) (g : ∀ d ∈ ds, flat d = true) (q : Q (fwD (fw ds)) s) : d_first_wrong [.ref a] s Q E := by
  unfold d_first_wrong b_first_wrong
  simp -implicitDefEqProofs -failIfUnchanged only [word_snoc, DL.runs_D14, DL.runs_D15, DL.runs_D16, DL.runs_D17, DL.runs_D19, DL.runs_D20, DL.runs_D23, DL.runs_D24, DL.runs_D25, DL.runs_D26, DL.runs_D31, DL.runs_D34, DL.runs_D36, DL.runs_D38, DL.runs_D43, DL.runs_D45, DL.runs_mir, DL.runs_sp_exec, DL.runs_sp_fam2, DL.runs_sp_lit, DL.runs_sp_like2, DL.runs_sp_terms, DL.runs_sp_putn, DL.runs_sp_refused, Nat.reduceSub, Nat.reduceAdd, Nat.reduceLT, true_and]
  refine table_wp ?_
  unfold tableD
  simp -implicitDefEqProofs -failIfUnchanged only [word_snoc, DL.runs_D14, DL.runs_D15, DL.runs_D16, DL.runs_D17, DL.runs_D19, DL.runs_D20, DL.runs_D23, DL.runs_D24, DL.runs_D25, DL.runs_D26, DL.runs_D31, DL.runs_D34, DL.runs_D36, DL.runs_D38, DL.runs_D43, DL.runs_D45, DL.runs_mir, DL.runs_sp_exec, DL.runs_sp_fam2, DL.runs_sp_lit, DL.runs_sp_like2, DL.runs_sp_terms, DL.runs_sp_putn, DL.runs_sp_refused, Nat.reduceSub, Nat.reduceAdd, Nat.reduceLT, true_and, ite_src (show (rcs.map fun p => D.tup [.str p.1, .tup (p.2.map .str)]).length ≤ sizeLine by decide)]
  have el : (rcs.map fun p => D.tup [.str p.1, .tup (p.2.map .str)]) = (rcs.zip ds).map fun y => D.tup [.str y.1.1, .tup (y.1.2.map .str)] := by
    have h : rcs = (rcs.zip ds).map (·.1) := (List.map_fst_zip (by rw [hl]; decide)).symm
    rw [show ((rcs.zip ds).map fun y => D.tup [.str y.1.1, .tup (y.1.2.map .str)]) = ((rcs.zip ds).map (·.1)).map fun p => D.tup [.str p.1, .tup (p.2.map .str)] by rw [List.map_map]; rfl, ← h]
  rw [el]
  have hf : fw ds = ((rcs.zip ds).find? fun y => !isChD y.1.2 y.2).map fun y => (y.1.1, y.2) := fwL_find
  refine loop_test (fun y : (Str × List Str) × D => D.tup [.str y.1.1, .tup (y.1.2.map .str)]) (fun ρ => ∃ o1 o2, ρ = [some (.ref a), o1, o2]) (fun y => isChD y.1.2 y.2) (fun y => .tup [.str y.1.1, y.2]) _ _ trivial ⟨_, _, rfl⟩ (fun y hy ρ hρ => ?_) (fun all => ?_) fun y hy => ?_
  · obtain ⟨o1, o2, rfl⟩ := hρ
    refine ⟨_, rfl, ?_⟩
    obtain ⟨i, hi, rfl⟩ := List.getElem_of_mem hy
    have hi2 : i < 10 := by rw [List.length_zip] at hi; exact Nat.lt_of_lt_of_le hi (Nat.min_le_left _ _)
    have hi3 : i < rcs.length := hi2
    have hv : dgetD (.ref a) (.str ((rcs.zip ds)[i]'hi).1.1) s = some ((rcs.zip ds)[i]'hi).2 := by
      rw [List.getElem_zip]
      show dgetD (.ref a) (.str (rcs[i]'hi3).1) s = some (ds[i]'_)
      rw [rcs_fst hi3 hi2]
      exact rkv_get ha hl hi2
    have hfl := (rcs_zip_ok g _ hy).2
    generalize (rcs.zip ds)[i]'hi = y at hv hfl
    obtain ⟨⟨r, cs⟩, d⟩ := y
    simp -implicitDefEqProofs -failIfUnchanged only [word_snoc, DL.runs_D14, DL.runs_D15, DL.runs_D16, DL.runs_D17, DL.runs_D19, DL.runs_D20, DL.runs_D23, DL.runs_D24, DL.runs_D25, DL.runs_D26, DL.runs_D31, DL.runs_D34, DL.runs_D36, DL.runs_D38, DL.runs_D43, DL.runs_D45, DL.runs_mir, DL.runs_sp_exec, DL.runs_sp_fam2, DL.runs_sp_lit, DL.runs_sp_like2, DL.runs_sp_terms, DL.runs_sp_putn, DL.runs_sp_refused, Nat.reduceSub, Nat.reduceAdd, Nat.reduceLT, true_and, hv, isi_str3 hfl]
    cases d with
    | str z =>
      simp -implicitDefEqProofs -failIfUnchanged only [word_snoc, DL.runs_D14, DL.runs_D15, DL.runs_D16, DL.runs_D17, DL.runs_D19, DL.runs_D20, DL.runs_D23, DL.runs_D24, DL.runs_D25, DL.runs_D26, DL.runs_D31, DL.runs_D34, DL.runs_D36, DL.runs_D38, DL.runs_D43, DL.runs_D45, DL.runs_mir, DL.runs_sp_exec, DL.runs_sp_fam2, DL.runs_sp_lit, DL.runs_sp_like2, DL.runs_sp_terms, DL.runs_sp_putn, DL.runs_sp_refused, Nat.reduceSub, Nat.reduceAdd, Nat.reduceLT, true_and, notin3]
      cases c : decide (z ∈ cs) with
      | true => simp -implicitDefEqProofs -failIfUnchanged only [word_snoc, DL.runs_D14, DL.runs_D15, DL.runs_D16, DL.runs_D17, DL.runs_D19, DL.runs_D20, DL.runs_D23, DL.runs_D24, DL.runs_D25, DL.runs_D26, DL.runs_D31, DL.runs_D34, DL.runs_D36, DL.runs_D38, DL.runs_D43, DL.runs_D45, DL.runs_mir, DL.runs_sp_exec, DL.runs_sp_fam2, DL.runs_sp_lit, DL.runs_sp_like2, DL.runs_sp_terms, DL.runs_sp_putn, DL.runs_sp_refused, Nat.reduceSub, Nat.reduceAdd, Nat.reduceLT, true_and]; exact .inl ⟨c, _, rfl, _, _, rfl⟩
      | false => simp -implicitDefEqProofs -failIfUnchanged only [word_snoc, DL.runs_D14, DL.runs_D15, DL.runs_D16, DL.runs_D17, DL.runs_D19, DL.runs_D20, DL.runs_D23, DL.runs_D24, DL.runs_D25, DL.runs_D26, DL.runs_D31, DL.runs_D34, DL.runs_D36, DL.runs_D38, DL.runs_D43, DL.runs_D45, DL.runs_mir, DL.runs_sp_exec, DL.runs_sp_fam2, DL.runs_sp_lit, DL.runs_sp_like2, DL.runs_sp_terms, DL.runs_sp_putn, DL.runs_sp_refused, Nat.reduceSub, Nat.reduceAdd, Nat.reduceLT, true_and]; exact .inr ⟨c, trivial⟩
    | _ => simp -implicitDefEqProofs -failIfUnchanged only [word_snoc, DL.runs_D14, DL.runs_D15, DL.runs_D16, DL.runs_D17, DL.runs_D19, DL.runs_D20, DL.runs_D23, DL.runs_D24, DL.runs_D25, DL.runs_D26, DL.runs_D31, DL.runs_D34, DL.runs_D36, DL.runs_D38, DL.runs_D43, DL.runs_D45, DL.runs_mir, DL.runs_sp_exec, DL.runs_sp_fam2, DL.runs_sp_lit, DL.runs_sp_like2, DL.runs_sp_terms, DL.runs_sp_putn, DL.runs_sp_refused, Nat.reduceSub, Nat.reduceAdd, Nat.reduceLT, true_and]; exact .inr ⟨rfl, trivial⟩
  · intro ρ hρ
    obtain ⟨o1, o2, rfl⟩ := hρ
    simp -implicitDefEqProofs -failIfUnchanged only [word_snoc, DL.runs_D14, DL.runs_D15, DL.runs_D16, DL.runs_D17, DL.runs_D19, DL.runs_D20, DL.runs_D23, DL.runs_D24, DL.runs_D25, DL.runs_D26, DL.runs_D31, DL.runs_D34, DL.runs_D36, DL.runs_D38, DL.runs_D43, DL.runs_D45, DL.runs_mir, DL.runs_sp_exec, DL.runs_sp_fam2, DL.runs_sp_lit, DL.runs_sp_like2, DL.runs_sp_terms, DL.runs_sp_putn, DL.runs_sp_refused, Nat.reduceSub, Nat.reduceAdd, Nat.reduceLT, true_and]
    have e : fw ds = none := by
      rw [hf, List.find?_eq_none.mpr fun y hy => by rw [all y hy]; decide]; rfl
    rw [e] at q
    exact q
  · simp -implicitDefEqProofs -failIfUnchanged only [word_snoc, DL.runs_D14, DL.runs_D15, DL.runs_D16, DL.runs_D17, DL.runs_D19, DL.runs_D20, DL.runs_D23, DL.runs_D24, DL.runs_D25, DL.runs_D26, DL.runs_D31, DL.runs_D34, DL.runs_D36, DL.runs_D38, DL.runs_D43, DL.runs_D45, DL.runs_mir, DL.runs_sp_exec, DL.runs_sp_fam2, DL.runs_sp_lit, DL.runs_sp_like2, DL.runs_sp_terms, DL.runs_sp_putn, DL.runs_sp_refused, Nat.reduceSub, Nat.reduceAdd, Nat.reduceLT, true_and]
    rw [hf, hy] at q
    exact q
def noRuleX (d : D) : Ex := ⟨"NoRule", ["rule"], [d]⟩
def isRule : D → Bool
  | .str z => decide (z ∈ ruleL)
  | _ => false
theorem t_names : t_CHOICES.map (·.1) = ruleL := by decide +kernel
theorem isRule_inv {d : D} (h : isRule d = true) : ∃ i, ∃ h : i < 10, d = .str (ruleL[i]'h) := by
  cases d with
  | str z =>
    obtain ⟨i, hi, e⟩ := List.getElem_of_mem (of_decide_eq_true h)
    exact ⟨i, hi, by rw [← e]⟩
  | _ => cases h
theorem choices_any {d : D} (hf : flat d = true) (q : isRule d = true → ∀ x, Q x s) (e : isRule d = false → E (noRuleX d) s) : d_Maker_choices [d] s Q E := by
  cases c : isRule d with
  | true =>
    obtain ⟨i, h, rfl⟩ := isRule_inv c
    exact Maker_choices_wp h (q c _)
  | false =>
    unfold d_Maker_choices b_Maker_choices
    simp -implicitDefEqProofs -failIfUnchanged only [word_snoc, DL.runs_D14, DL.runs_D15, DL.runs_D16, DL.runs_D17, DL.runs_D19, DL.runs_D20, DL.runs_D23, DL.runs_D24, DL.runs_D25, DL.runs_D26, DL.runs_D31, DL.runs_D34, DL.runs_D36, DL.runs_D38, DL.runs_D43, DL.runs_D45, DL.runs_mir, DL.runs_sp_exec, DL.runs_sp_fam2, DL.runs_sp_lit, DL.runs_sp_like2, DL.runs_sp_terms, DL.runs_sp_putn, DL.runs_sp_refused, Nat.reduceSub, Nat.reduceAdd, Nat.reduceLT, true_and, isi_str3 hf]
    cases d with
    | str z =>
      have c : decide (z ∈ ruleL) = false := c
      simp -implicitDefEqProofs -failIfUnchanged only [word_snoc, DL.runs_D14, DL.runs_D15, DL.runs_D16, DL.runs_D17, DL.runs_D19, DL.runs_D20, DL.runs_D23, DL.runs_D24, DL.runs_D25, DL.runs_D26, DL.runs_D31, DL.runs_D34, DL.runs_D36, DL.runs_D38, DL.runs_D43, DL.runs_D45, DL.runs_mir, DL.runs_sp_exec, DL.runs_sp_fam2, DL.runs_sp_lit, DL.runs_sp_like2, DL.runs_sp_terms, DL.runs_sp_putn, DL.runs_sp_refused, Nat.reduceSub, Nat.reduceAdd, Nat.reduceLT, true_and, t_names, c]
      exact e c
    | _ => simp -implicitDefEqProofs -failIfUnchanged only [word_snoc, DL.runs_D14, DL.runs_D15, DL.runs_D16, DL.runs_D17, DL.runs_D19, DL.runs_D20, DL.runs_D23, DL.runs_D24, DL.runs_D25, DL.runs_D26, DL.runs_D31, DL.runs_D34, DL.runs_D36, DL.runs_D38, DL.runs_D43, DL.runs_D45, DL.runs_mir, DL.runs_sp_exec, DL.runs_sp_fam2, DL.runs_sp_lit, DL.runs_sp_like2, DL.runs_sp_terms, DL.runs_sp_putn, DL.runs_sp_refused, Nat.reduceSub, Nat.reduceAdd, Nat.reduceLT, true_and]; exact e c
theorem choice_any {d : D} (hf : flat d = true) (q : isRule d = true → ∀ x, Q x s) (e : isRule d = false → E (noRuleX d) s) : d_Maker_choice [m.ins, d] s Q E := by
  cases c : isRule d with
  | true =>
    obtain ⟨i, h, rfl⟩ := isRule_inv c
    exact Maker_choice_wp h (q c _)
  | false =>
    unfold d_Maker_choice b_Maker_choice
    simp -implicitDefEqProofs -failIfUnchanged only [word_snoc, DL.runs_D14, DL.runs_D15, DL.runs_D16, DL.runs_D17, DL.runs_D19, DL.runs_D20, DL.runs_D23, DL.runs_D24, DL.runs_D25, DL.runs_D26, DL.runs_D31, DL.runs_D34, DL.runs_D36, DL.runs_D38, DL.runs_D43, DL.runs_D45, DL.runs_mir, DL.runs_sp_exec, DL.runs_sp_fam2, DL.runs_sp_lit, DL.runs_sp_like2, DL.runs_sp_terms, DL.runs_sp_putn, DL.runs_sp_refused, Nat.reduceSub, Nat.reduceAdd, Nat.reduceLT, true_and]
    refine ⟨_, rfl, ?_⟩
    refine Maker_written_wp ?_
    simp -implicitDefEqProofs -failIfUnchanged only [word_snoc, DL.runs_D14, DL.runs_D15, DL.runs_D16, DL.runs_D17, DL.runs_D19, DL.runs_D20, DL.runs_D23, DL.runs_D24, DL.runs_D25, DL.runs_D26, DL.runs_D31, DL.runs_D34, DL.runs_D36, DL.runs_D38, DL.runs_D43, DL.runs_D45, DL.runs_mir, DL.runs_sp_exec, DL.runs_sp_fam2, DL.runs_sp_lit, DL.runs_sp_like2, DL.runs_sp_terms, DL.runs_sp_putn, DL.runs_sp_refused, Nat.reduceSub, Nat.reduceAdd, Nat.reduceLT, true_and, zip_src]
    refine loop_test (fun p : Str × Str => D.tup [.str p.1, .str p.2]) (fun ρ => ∃ o2 o3, ρ = [some m.ins, some d, o2, o3]) (fun _ => true) (fun p => .str p.2) _ _ trivial ⟨_, _, rfl⟩ (fun p hp ρ hρ => ?_) (fun all => ?_) fun p hp => ?_
    · obtain ⟨o2, o3, rfl⟩ := hρ
      refine ⟨_, rfl, ?_⟩
      simp -implicitDefEqProofs -failIfUnchanged only [word_snoc, DL.runs_D14, DL.runs_D15, DL.runs_D16, DL.runs_D17, DL.runs_D19, DL.runs_D20, DL.runs_D23, DL.runs_D24, DL.runs_D25, DL.runs_D26, DL.runs_D31, DL.runs_D34, DL.runs_D36, DL.runs_D38, DL.runs_D43, DL.runs_D45, DL.runs_mir, DL.runs_sp_exec, DL.runs_sp_fam2, DL.runs_sp_lit, DL.runs_sp_like2, DL.runs_sp_terms, DL.runs_sp_putn, DL.runs_sp_refused, Nat.reduceSub, Nat.reduceAdd, Nat.reduceLT, true_and, isi_str3 hf]
      cases d with
      | str z =>
        have ne : decide (p.1 = z) = false := decide_eq_false fun h => by
          have h1 : p.1 ∈ ruleL := (List.of_mem_zip hp).1
          rw [h] at h1
          have c : decide (z ∈ ruleL) = false := c
          exact absurd h1 (of_decide_eq_false c)
        simp -implicitDefEqProofs -failIfUnchanged only [word_snoc, DL.runs_D14, DL.runs_D15, DL.runs_D16, DL.runs_D17, DL.runs_D19, DL.runs_D20, DL.runs_D23, DL.runs_D24, DL.runs_D25, DL.runs_D26, DL.runs_D31, DL.runs_D34, DL.runs_D36, DL.runs_D38, DL.runs_D43, DL.runs_D45, DL.runs_mir, DL.runs_sp_exec, DL.runs_sp_fam2, DL.runs_sp_lit, DL.runs_sp_like2, DL.runs_sp_terms, DL.runs_sp_putn, DL.runs_sp_refused, Nat.reduceSub, Nat.reduceAdd, Nat.reduceLT, true_and, eq_str, ne]
        exact .inl ⟨_, rfl, _, _, rfl⟩
      | _ => simp -implicitDefEqProofs -failIfUnchanged only [word_snoc, DL.runs_D14, DL.runs_D15, DL.runs_D16, DL.runs_D17, DL.runs_D19, DL.runs_D20, DL.runs_D23, DL.runs_D24, DL.runs_D25, DL.runs_D26, DL.runs_D31, DL.runs_D34, DL.runs_D36, DL.runs_D38, DL.runs_D43, DL.runs_D45, DL.runs_mir, DL.runs_sp_exec, DL.runs_sp_fam2, DL.runs_sp_lit, DL.runs_sp_like2, DL.runs_sp_terms, DL.runs_sp_putn, DL.runs_sp_refused, Nat.reduceSub, Nat.reduceAdd, Nat.reduceLT, true_and]; exact .inl ⟨_, rfl, _, _, rfl⟩
    · intro ρ hρ
      obtain ⟨o2, o3, rfl⟩ := hρ
      simp -implicitDefEqProofs -failIfUnchanged only [word_snoc, DL.runs_D14, DL.runs_D15, DL.runs_D16, DL.runs_D17, DL.runs_D19, DL.runs_D20, DL.runs_D23, DL.runs_D24, DL.runs_D25, DL.runs_D26, DL.runs_D31, DL.runs_D34, DL.runs_D36, DL.runs_D38, DL.runs_D43, DL.runs_D45, DL.runs_mir, DL.runs_sp_exec, DL.runs_sp_fam2, DL.runs_sp_lit, DL.runs_sp_like2, DL.runs_sp_terms, DL.runs_sp_putn, DL.runs_sp_refused, Nat.reduceSub, Nat.reduceAdd, Nat.reduceLT, true_and]
      exact e c
    · have := List.find?_some hp
      simp at this
theorem unknown_wp (q : Q (.tup [.str "zeal"]) s) : d_unknown [m.ins] s Q E := by
  unfold d_unknown b_unknown
  simp -implicitDefEqProofs -failIfUnchanged only [word_snoc, DL.runs_D14, DL.runs_D15, DL.runs_D16, DL.runs_D17, DL.runs_D19, DL.runs_D20, DL.runs_D23, DL.runs_D24, DL.runs_D25, DL.runs_D26, DL.runs_D31, DL.runs_D34, DL.runs_D36, DL.runs_D38, DL.runs_D43, DL.runs_D45, DL.runs_mir, DL.runs_sp_exec, DL.runs_sp_fam2, DL.runs_sp_lit, DL.runs_sp_like2, DL.runs_sp_terms, DL.runs_sp_putn, DL.runs_sp_refused, Nat.reduceSub, Nat.reduceAdd, Nat.reduceLT, true_and]
  refine cutC (fun ρ' s' => s' = s ∧ ∃ o2, ρ' = [some m.ins, some (.tup [.str "zeal"]), o2]) ?_ ?_
  · simp -implicitDefEqProofs -failIfUnchanged only [word_snoc, DL.runs_D14, DL.runs_D15, DL.runs_D16, DL.runs_D17, DL.runs_D19, DL.runs_D20, DL.runs_D23, DL.runs_D24, DL.runs_D25, DL.runs_D26, DL.runs_D31, DL.runs_D34, DL.runs_D36, DL.runs_D38, DL.runs_D43, DL.runs_D45, DL.runs_mir, DL.runs_sp_exec, DL.runs_sp_fam2, DL.runs_sp_lit, DL.runs_sp_like2, DL.runs_sp_terms, DL.runs_sp_putn, DL.runs_sp_refused, Nat.reduceSub, Nat.reduceAdd, Nat.reduceLT, true_and]
    refine ⟨_, rfl, ?_⟩
    unfold f_Maker_changed_kd
    rw [x_kdF (ps := ["self"]) (ks := ["zeal", "post"]) (ds := [m.ins]) (es := [.str "a", .str "b"]) rfl rfl (by decide) (by decide) (by decide)]
    intro r hr
    unfold d_Maker_changed b_Maker_changed
    simp -implicitDefEqProofs -failIfUnchanged only [word_snoc, DL.runs_D14, DL.runs_D15, DL.runs_D16, DL.runs_D17, DL.runs_D19, DL.runs_D20, DL.runs_D23, DL.runs_D24, DL.runs_D25, DL.runs_D26, DL.runs_D31, DL.runs_D34, DL.runs_D36, DL.runs_D38, DL.runs_D43, DL.runs_D45, DL.runs_mir, DL.runs_sp_exec, DL.runs_sp_fam2, DL.runs_sp_lit, DL.runs_sp_like2, DL.runs_sp_terms, DL.runs_sp_putn, DL.runs_sp_refused, Nat.reduceSub, Nat.reduceAdd, Nat.reduceLT, true_and]
    rw [x_forKS rfl S.set_same]
    show loopS _ _ _ [D.str "zeal", D.str "post"] _ _ _ _
    simp -implicitDefEqProofs -failIfUnchanged only [word_snoc, DL.runs_D14, DL.runs_D15, DL.runs_D16, DL.runs_D17, DL.runs_D19, DL.runs_D20, DL.runs_D23, DL.runs_D24, DL.runs_D25, DL.runs_D26, DL.runs_D31, DL.runs_D34, DL.runs_D36, DL.runs_D38, DL.runs_D43, DL.runs_D45, DL.runs_mir, DL.runs_sp_exec, DL.runs_sp_fam2, DL.runs_sp_lit, DL.runs_sp_like2, DL.runs_sp_terms, DL.runs_sp_putn, DL.runs_sp_refused, Nat.reduceSub, Nat.reduceAdd, Nat.reduceLT, true_and, keyT, x_loop_cons, t_names, show decide (("zeal" : Str) ∈ ruleL) = false by decide +kernel, S.del_set hr]
    exact ⟨_, if_pos trivial, _, rfl⟩
  · rintro ρ' s' ⟨rfl, o2, rfl⟩
    simp -implicitDefEqProofs -failIfUnchanged only [word_snoc, DL.runs_D14, DL.runs_D15, DL.runs_D16, DL.runs_D17, DL.runs_D19, DL.runs_D20, DL.runs_D23, DL.runs_D24, DL.runs_D25, DL.runs_D26, DL.runs_D31, DL.runs_D34, DL.runs_D36, DL.runs_D38, DL.runs_D43, DL.runs_D45, DL.runs_mir, DL.runs_sp_exec, DL.runs_sp_fam2, DL.runs_sp_lit, DL.runs_sp_like2, DL.runs_sp_terms, DL.runs_sp_putn, DL.runs_sp_refused, Nat.reduceSub, Nat.reduceAdd, Nat.reduceLT, true_and]
    exact q
theorem changed_post {d : D} (e : E (noRuleX (.str "post")) s) : f_Maker_changed_kd ["fits", "post", "again"] [m.ins] [d, .str "here", .int 3] s Q E := by
  unfold f_Maker_changed_kd
  rw [x_kdF (ps := ["self"]) (ks := ["fits", "post", "again"]) (ds := [m.ins]) (es := [d, .str "here", .int 3]) rfl rfl (by decide) (by decide) (by decide)]
  intro r hr
  unfold d_Maker_changed b_Maker_changed
  simp -implicitDefEqProofs -failIfUnchanged only [word_snoc, DL.runs_D14, DL.runs_D15, DL.runs_D16, DL.runs_D17, DL.runs_D19, DL.runs_D20, DL.runs_D23, DL.runs_D24, DL.runs_D25, DL.runs_D26, DL.runs_D31, DL.runs_D34, DL.runs_D36, DL.runs_D38, DL.runs_D43, DL.runs_D45, DL.runs_mir, DL.runs_sp_exec, DL.runs_sp_fam2, DL.runs_sp_lit, DL.runs_sp_like2, DL.runs_sp_terms, DL.runs_sp_putn, DL.runs_sp_refused, Nat.reduceSub, Nat.reduceAdd, Nat.reduceLT, true_and]
  rw [x_forKS rfl S.set_same]
  show loopS _ _ _ [D.str "fits", D.str "post", D.str "again"] _ _ _ _
  simp -implicitDefEqProofs -failIfUnchanged only [word_snoc, DL.runs_D14, DL.runs_D15, DL.runs_D16, DL.runs_D17, DL.runs_D19, DL.runs_D20, DL.runs_D23, DL.runs_D24, DL.runs_D25, DL.runs_D26, DL.runs_D31, DL.runs_D34, DL.runs_D36, DL.runs_D38, DL.runs_D43, DL.runs_D45, DL.runs_mir, DL.runs_sp_exec, DL.runs_sp_fam2, DL.runs_sp_lit, DL.runs_sp_like2, DL.runs_sp_terms, DL.runs_sp_putn, DL.runs_sp_refused, Nat.reduceSub, Nat.reduceAdd, Nat.reduceLT, true_and, keyT, x_loop_cons, t_names, show decide (("fits" : Str) ∈ ruleL) = true by decide +kernel, show decide (("post" : Str) ∈ ruleL) = false by decide +kernel, S.del_set hr]
  exact e
theorem tab_at {i : Nat} (hi : i < 10) : ixD tableD (.int (i : Nat)) s = some (.tup [.str (ruleL[i]'hi), .tup ((chL[i]'hi).map .str)]) := by
  match i, hi with
  | 0, _ => rfl
  | 1, _ => rfl
  | 2, _ => rfl
  | 3, _ => rfl
  | 4, _ => rfl
  | 5, _ => rfl
  | 6, _ => rfl
  | 7, _ => rfl
  | 8, _ => rfl
  | 9, _ => rfl
theorem rule_dat {i : Nat} (hi : i < 10) {n : Nat} : dat n (.str (ruleL[i]'hi)) = true := by
  have : ∀ z ∈ ruleL, z.length ≤ 1000 ∧ PyData.strOk z = true := by decide +kernel
  exact dat_str.mpr (this _ (List.getElem_mem _))
theorem odd_wp {b c : Addr} (hb : s.map b = some (.bag c)) (q : ∀ d, dat 2 d = true → Q d s) : d_odd [.ref b] s Q E := by
  unfold d_odd b_odd
  simp -implicitDefEqProofs -failIfUnchanged only [word_snoc, DL.runs_D14, DL.runs_D15, DL.runs_D16, DL.runs_D17, DL.runs_D19, DL.runs_D20, DL.runs_D23, DL.runs_D24, DL.runs_D25, DL.runs_D26, DL.runs_D31, DL.runs_D34, DL.runs_D36, DL.runs_D38, DL.runs_D43, DL.runs_D45, DL.runs_mir, DL.runs_sp_exec, DL.runs_sp_fam2, DL.runs_sp_lit, DL.runs_sp_like2, DL.runs_sp_terms, DL.runs_sp_putn, DL.runs_sp_refused, Nat.reduceSub, Nat.reduceAdd, Nat.reduceLT, true_and]
  refine draw_wp hb (by decide) (by decide) fun v v0 v1 => ?_
  simp -implicitDefEqProofs -failIfUnchanged only [word_snoc, DL.runs_D14, DL.runs_D15, DL.runs_D16, DL.runs_D17, DL.runs_D19, DL.runs_D20, DL.runs_D23, DL.runs_D24, DL.runs_D25, DL.runs_D26, DL.runs_D31, DL.runs_D34, DL.runs_D36, DL.runs_D38, DL.runs_D43, DL.runs_D45, DL.runs_mir, DL.runs_sp_exec, DL.runs_sp_fam2, DL.runs_sp_lit, DL.runs_sp_like2, DL.runs_sp_terms, DL.runs_sp_putn, DL.runs_sp_refused, Nat.reduceSub, Nat.reduceAdd, Nat.reduceLT, true_and]
  refine selB_of (fun _ => ?_) fun _ => ?_
  · refine table_wp ?_
    refine draw_wp hb (by decide) (by decide) fun w w0 w1 => ?_
    obtain ⟨i, rfl⟩ := Int.eq_ofNat_of_zero_le w0
    have hi : i < 10 := by omega
    have e1 : ixD tableD (.int (i : Nat)) s = some (.tup [.str (ruleL[i]'hi), .tup ((chL[i]'hi).map .str)]) := by
      match i, hi with
      | 0, _ => rfl
      | 1, _ => rfl
      | 2, _ => rfl
      | 3, _ => rfl
      | 4, _ => rfl
      | 5, _ => rfl
      | 6, _ => rfl
      | 7, _ => rfl
      | 8, _ => rfl
      | 9, _ => rfl
    simp -implicitDefEqProofs -failIfUnchanged only [word_snoc, DL.runs_D14, DL.runs_D15, DL.runs_D16, DL.runs_D17, DL.runs_D19, DL.runs_D20, DL.runs_D23, DL.runs_D24, DL.runs_D25, DL.runs_D26, DL.runs_D31, DL.runs_D34, DL.runs_D36, DL.runs_D38, DL.runs_D43, DL.runs_D45, DL.runs_mir, DL.runs_sp_exec, DL.runs_sp_fam2, DL.runs_sp_lit, DL.runs_sp_like2, DL.runs_sp_terms, DL.runs_sp_putn, DL.runs_sp_refused, Nat.reduceSub, Nat.reduceAdd, Nat.reduceLT, true_and, e1]
    have k := rcs_at hi
    have k1 := k.some_
    have k2 := k.few
    dsimp only at k1 k2
    refine draw_wp hb (by rw [List.length_map]; omega) (by rw [List.length_map]; omega) fun v v0 v1 => ?_
    obtain ⟨x, h4, h5⟩ := ix_strs (s := s) (cs := chL[i]'hi) v0 (by simpa using v1)
    simp -implicitDefEqProofs -failIfUnchanged only [word_snoc, DL.runs_D14, DL.runs_D15, DL.runs_D16, DL.runs_D17, DL.runs_D19, DL.runs_D20, DL.runs_D23, DL.runs_D24, DL.runs_D25, DL.runs_D26, DL.runs_D31, DL.runs_D34, DL.runs_D36, DL.runs_D38, DL.runs_D43, DL.runs_D45, DL.runs_mir, DL.runs_sp_exec, DL.runs_sp_fam2, DL.runs_sp_lit, DL.runs_sp_like2, DL.runs_sp_terms, DL.runs_sp_putn, DL.runs_sp_refused, Nat.reduceSub, Nat.reduceAdd, Nat.reduceLT, true_and, h5]
    refine q _ (dat_str.mpr ⟨?_, ch_ok hi x h4⟩)
    have : ∀ l ∈ chL, ∀ c ∈ l, c.length ≤ 1000 := by decide +kernel
    exact this _ (List.getElem_mem _) x h4
  · exact any_wp hb fun d h _ => q d h
def Ext (s s' : S) : Prop := ∀ b o, s.map b = some o → s'.map b = some o
theorem Ext.refl : Ext s s := fun _ _ h => h
theorem Ext.trans {s1 s2 s3 : S} (h : Ext s1 s2) (k : Ext s2 s3) : Ext s1 s3 := fun b o e => k b o (h b o e)
theorem Ext.new {a : Addr} {o : Ob} (h : s.map a = none) : Ext s (s.set a o) := fun b _ e => map_keep e h
theorem keysOf_strs : ∀ zs : List Str, keysOf (zs.map .str) = some (zs.map Sum.inr)
  | [] => rfl
  | z :: zs => by
    show ((keysOf (zs.map .str)).map fun ks => (Sum.inr z : Key) :: ks) = _
    rw [keysOf_strs zs]; rfl
theorem ruleK_nd : (ruleL.map (Sum.inr : Str → Key)).Nodup := by decide +kernel
theorem dz03 : dzpO [.lst (ruleL.map .str), m.row] s = some (rkv (m.list.map .str)) := by
  show ((keysOf (ruleL.map .str)).bind fun ks => if ks.length = (m.list.map D.str).length then some (mergeKD [] (ks.zip (m.list.map D.str))) else none) = _
  rw [keysOf_strs, Option.bind_some, if_pos (show (ruleL.map (Sum.inr : Str → Key)).length = (m.list.map D.str).length from rfl), mergeKD_nil]
  · rfl
  · rw [List.map_fst_zip (show (ruleL.map (Sum.inr : Str → Key)).length ≤ (m.list.map D.str).length from Nat.le_refl 10)]
    exact ruleK_nd
def sev (m : MkD) (o0 o1 o2 : D) : List D := (((m.list.map D.str).set 9 o0).set 0 o1).set 1 o2
theorem sev_len {o0 o1 o2 : D} : (sev m o0 o1 o2).length = 10 := rfl
theorem sev_put {o0 o1 o2 : D} : putKD (putKD (putKD (rkv (m.list.map .str)) (.inr "again") o0) (.inr "place") o1) (.inr "key") o2 = rkv (sev m o0 o1 o2) := by
  have e1 : putKD (rkv (m.list.map D.str)) (.inr "again") o0 = rkv ((m.list.map D.str).set 9 o0) := rkv_put (i := 9) rfl (by decide)
  have e2 : putKD (rkv ((m.list.map D.str).set 9 o0)) (.inr "place") o1 = rkv (((m.list.map D.str).set 9 o0).set 0 o1) := rkv_put (i := 0) rfl (by decide)
  have e3 : putKD (rkv (((m.list.map D.str).set 9 o0).set 0 o1)) (.inr "key") o2 = rkv (sev m o0 o1 o2) := rkv_put (i := 1) rfl (by decide)
  rw [e1, e2, e3]
theorem sev_puts {o0 o1 o2 : D} : putsKD (strKV (ruleL.zip m.list)) [(.inr "again", o0), (.inr "place", o1), (.inr "key", o2)] = rkv (sev m o0 o1 o2) := by
  rw [strKV_zip]
  exact sev_put
theorem changed3 {o0 o1 o2 : D} (gm : m.Good) (f : ∀ d ∈ sev m o0 o1 o2, flat d = true) (q : ∀ m' : MkD, m'.Good → sev m o0 o1 o2 = m'.list.map .str → Q m'.ins s) (e : ∀ r d s', fw (sev m o0 o1 o2) = some (r, d) → Ext s s' → E (wrongX r d) s') :
    f_Maker_changed_kd ["again", "place", "key"] [m.ins] [o0, o1, o2] s Q E := by
  unfold f_Maker_changed_kd
  rw [x_kdF (ps := ["self"]) (ks := ["again", "place", "key"]) (ds := [m.ins]) (es := [o0, o1, o2]) rfl rfl (by decide) (by decide) (by decide)]
  intro r hr
  show d_Maker_changed [m.ins, .ref r] (s.set r (.dic [(.inr "again", o0), (.inr "place", o1), (.inr "key", o2)])) Q E
  unfold d_Maker_changed b_Maker_changed
  simp -implicitDefEqProofs -failIfUnchanged only [word_snoc, DL.runs_D14, DL.runs_D15, DL.runs_D16, DL.runs_D17, DL.runs_D19, DL.runs_D20, DL.runs_D23, DL.runs_D24, DL.runs_D25, DL.runs_D26, DL.runs_D31, DL.runs_D34, DL.runs_D36, DL.runs_D38, DL.runs_D43, DL.runs_D45, DL.runs_mir, DL.runs_sp_exec, DL.runs_sp_fam2, DL.runs_sp_lit, DL.runs_sp_like2, DL.runs_sp_terms, DL.runs_sp_putn, DL.runs_sp_refused, Nat.reduceSub, Nat.reduceAdd, Nat.reduceLT, true_and]
  rw [x_forKS rfl S.set_same]
  show loopS _ _ _ [D.str "again", D.str "place", D.str "key"] _ _ _ _
  simp -implicitDefEqProofs -failIfUnchanged only [word_snoc, DL.runs_D14, DL.runs_D15, DL.runs_D16, DL.runs_D17, DL.runs_D19, DL.runs_D20, DL.runs_D23, DL.runs_D24, DL.runs_D25, DL.runs_D26, DL.runs_D31, DL.runs_D34, DL.runs_D36, DL.runs_D38, DL.runs_D43, DL.runs_D45, DL.runs_mir, DL.runs_sp_exec, DL.runs_sp_fam2, DL.runs_sp_lit, DL.runs_sp_like2, DL.runs_sp_terms, DL.runs_sp_putn, DL.runs_sp_refused, Nat.reduceSub, Nat.reduceAdd, Nat.reduceLT, true_and, x_loop_cons, t_names, show decide (("again" : Str) ∈ ruleL) = true by decide +kernel, show decide (("place" : Str) ∈ ruleL) = true by decide +kernel, show decide (("key" : Str) ∈ ruleL) = true by decide +kernel, S.del_set hr, hr]
  intro t ht
  refine ⟨_, rfl, ?_⟩
  refine Maker_written_wp ?_
  simp -implicitDefEqProofs -failIfUnchanged only [word_snoc, DL.runs_D14, DL.runs_D15, DL.runs_D16, DL.runs_D17, DL.runs_D19, DL.runs_D20, DL.runs_D23, DL.runs_D24, DL.runs_D25, DL.runs_D26, DL.runs_D31, DL.runs_D34, DL.runs_D36, DL.runs_D38, DL.runs_D43, DL.runs_D45, DL.runs_mir, DL.runs_sp_exec, DL.runs_sp_fam2, DL.runs_sp_lit, DL.runs_sp_like2, DL.runs_sp_terms, DL.runs_sp_putn, DL.runs_sp_refused, Nat.reduceSub, Nat.reduceAdd, Nat.reduceLT, true_and, zip_src]
  have hrt : r ≠ t := by rintro rfl; rw [S.set_same] at ht; cases ht
  refine loop_inv (fun ds ρ s' => ∃ acc rest : List (Str × Str), acc ++ rest = ruleL.zip m.list ∧ ds = rest.map (fun p => D.tup [.str p.1, .str p.2]) ∧ s' = (s.set r (.dic [(.inr "again", o0), (.inr "place", o1), (.inr "key", o2)])).set t (.dic (strKV acc)) ∧ ∃ o3 o4 o5, ρ = [some m.ins, some (.ref r), o3, some (.ref t), o4, o5]) _ _ _ ⟨[], _, rfl, rfl, rfl, _, _, _, rfl⟩ ?_ ?_
  · rintro d ds ρ s' ⟨acc, rest, h1, hd, rfl, o3, o4, o5, rfl⟩
    cases rest with
    | nil => cases hd
    | cons p rest =>
      obtain ⟨rfl, rfl⟩ := List.cons.inj hd
      refine ⟨trivial, _, rfl, ?_⟩
      have hk : (Sum.inr p.1 : Key) ∉ (strKV acc).map (·.1) := by
        rw [strKV_keys]
        intro hm
        obtain ⟨q2, h5, h6⟩ := List.mem_map.mp hm
        have h7 : q2.1 = p.1 := Sum.inr.inj h6
        have nd : ((acc ++ p :: rest).map (·.1)).Nodup := by rw [h1]; exact ruleL_nd
        rw [List.map_append] at nd
        exact (List.nodup_append.mp nd).2.2 _ (List.mem_map.mpr ⟨q2, h5, rfl⟩) _ (by simp) h7
      have hl : (strKV acc).length < sizeLine := by
        have := congrArg List.length h1
        rw [List.length_append, show (ruleL.zip m.list).length = 10 from rfl] at this
        exact lt_sz (by simp [strKV]; omega)
      have e : putKD (strKV acc) (.inr p.1) (.str p.2) = strKV (acc ++ [p]) := by rw [put_new hk]; simp [strKV]
      simp -implicitDefEqProofs -failIfUnchanged only [word_snoc, DL.runs_D14, DL.runs_D15, DL.runs_D16, DL.runs_D17, DL.runs_D19, DL.runs_D20, DL.runs_D23, DL.runs_D24, DL.runs_D25, DL.runs_D26, DL.runs_D31, DL.runs_D34, DL.runs_D36, DL.runs_D38, DL.runs_D43, DL.runs_D45, DL.runs_mir, DL.runs_sp_exec, DL.runs_sp_fam2, DL.runs_sp_lit, DL.runs_sp_like2, DL.runs_sp_terms, DL.runs_sp_putn, DL.runs_sp_refused, Nat.reduceSub, Nat.reduceAdd, Nat.reduceLT, true_and, e]
      exact ⟨hl, acc ++ [p], rest, by simp [h1], rfl, rfl, _, _, _, rfl⟩
  · rintro ρ s' ⟨acc, rest, h1, hd, rfl, o3, o4, o5, rfl⟩
    refine ⟨trivial, ?_⟩
    have hr0 : rest = [] := List.map_eq_nil_iff.mp hd.symm
    subst hr0
    rw [List.append_nil] at h1
    subst h1
    simp -implicitDefEqProofs -failIfUnchanged only [word_snoc, DL.runs_D14, DL.runs_D15, DL.runs_D16, DL.runs_D17, DL.runs_D19, DL.runs_D20, DL.runs_D23, DL.runs_D24, DL.runs_D25, DL.runs_D26, DL.runs_D31, DL.runs_D34, DL.runs_D36, DL.runs_D38, DL.runs_D43, DL.runs_D45, DL.runs_mir, DL.runs_sp_exec, DL.runs_sp_fam2, DL.runs_sp_lit, DL.runs_sp_like2, DL.runs_sp_terms, DL.runs_sp_putn, DL.runs_sp_refused, Nat.reduceSub, Nat.reduceAdd, Nat.reduceLT, true_and]
    have hdr : dicOf ((s.set r (.dic [(.inr "again", o0), (.inr "place", o1), (.inr "key", o2)])).set t (.dic (strKV (ruleL.zip m.list)))) (.ref r) = some [(.inr "again", o0), (.inr "place", o1), (.inr "key", o2)] := dicOf_at (by rw [S.set_ne hrt, S.set_same])
    rw [x_updF S.set_same hdr (by intro e; cases e; exact hrt rfl) (by exact le_sz (show 10 + 3 ≤ 100000 by decide)), S.set_set, sev_puts]
    refine ⟨(ruleL, sev m o0 o1 o2), kkO_of (by rw [dicOf_set]; rfl) rfl, fun a ha => ?_⟩
    have hdrop := drop_rt hr ht (k2 := rkv (sev m o0 o1 o2))
    have hx : Ext s (((s.set r (.dic [(.inr "again", o0), (.inr "place", o1), (.inr "key", o2)])).set t (.dic (rkv (sev m o0 o1 o2)))).set a (.ins "Maker" [])) := (Ext.new hr).trans ((Ext.new ht).trans (Ext.new ha))
    generalize ((s.set r (.dic [(.inr "again", o0), (.inr "place", o1), (.inr "key", o2)])).set t (.dic (rkv (sev m o0 o1 o2)))) = s5 at ha hdrop hx
    have eo : ∀ n : Fn, onlyK ["place", "key", "store", "stopped", "fits", "misfit", "compare", "unlike", "unready", "again"] n ruleL = n := fun n => x_onlyK (ns := ruleL)
    simp -implicitDefEqProofs -failIfUnchanged only [word_snoc, DL.runs_D14, DL.runs_D15, DL.runs_D16, DL.runs_D17, DL.runs_D19, DL.runs_D20, DL.runs_D23, DL.runs_D24, DL.runs_D25, DL.runs_D26, DL.runs_D31, DL.runs_D34, DL.runs_D36, DL.runs_D38, DL.runs_D43, DL.runs_D45, DL.runs_mir, DL.runs_sp_exec, DL.runs_sp_fam2, DL.runs_sp_lit, DL.runs_sp_like2, DL.runs_sp_terms, DL.runs_sp_putn, DL.runs_sp_refused, Nat.reduceSub, Nat.reduceAdd, Nat.reduceLT, true_and, eo]
    refine init_any (ds := sev m o0 o1 o2) sev_len f (fun m' gm' hd => ?_) fun r' d' n => e r' d' _ n hx
    simp -implicitDefEqProofs -failIfUnchanged only [word_snoc, DL.runs_D14, DL.runs_D15, DL.runs_D16, DL.runs_D17, DL.runs_D19, DL.runs_D20, DL.runs_D23, DL.runs_D24, DL.runs_D25, DL.runs_D26, DL.runs_D31, DL.runs_D34, DL.runs_D36, DL.runs_D38, DL.runs_D43, DL.runs_D45, DL.runs_mir, DL.runs_sp_exec, DL.runs_sp_fam2, DL.runs_sp_lit, DL.runs_sp_like2, DL.runs_sp_terms, DL.runs_sp_putn, DL.runs_sp_refused, Nat.reduceSub, Nat.reduceAdd, Nat.reduceLT, true_and, ha, hdrop]
    exact q m' gm' hd
theorem sev_flat {o0 o1 o2 : D} (gm : m.Good) (g0 : flat o0 = true) (g1 : flat o1 = true) (g2 : flat o2 = true) : ∀ d ∈ sev m o0 o1 o2, flat d = true := by
  have hs : ∀ d ∈ m.list.map D.str, flat d = true := fun d hd => by
    obtain ⟨z, hz, rfl⟩ := List.mem_map.mp hd
    obtain ⟨j, hj, rfl⟩ := List.getElem_of_mem hz
    have hj' : j < 10 := hj
    have hm : (ruleL[j]'hj', m.list[j]'hj') ∈ ruleL.zip m.list := by
      rw [List.mem_iff_getElem]
      exact ⟨j, by simpa [ruleL, MkD.list] using hj', by rw [List.getElem_zip]; rfl⟩
    obtain ⟨⟨chs, h3, h4, h5⟩⟩ := Chs.all gm _ hm
    exact decide_eq_true h5
  intro d hd
  rcases List.mem_or_eq_of_mem_set hd with hd | rfl
  · rcases List.mem_or_eq_of_mem_set hd with hd | rfl
    · rcases List.mem_or_eq_of_mem_set hd with hd | rfl
      · exact hs d hd
      · exact g0
    · exact g1
  · exact g2
theorem fwD_lit {ds : List D} (g : ∀ d ∈ ds, dat 2 d = true) : litE 5 (fwD (fw ds)) = true := by
  cases c : fw ds with
  | none => rfl
  | some p =>
    obtain ⟨r, d⟩ := p
    have hm : d ∈ ds := by
      have h : ((rcs.zip ds).find? fun y => !isChD y.1.2 y.2).map (fun y => (y.1.1, y.2)) = some (r, d) := fwL_find.symm.trans c
      obtain ⟨y, h1, h2⟩ := Option.map_eq_some_iff.mp h
      cases h2
      exact (List.of_mem_zip (List.mem_of_find?_eq_some h1)).2
    have hd : litE 4 d = true := dat_lit (dat_mono (n := 2) (k := 2) (g d hm))
    show (decide (2 ≤ 1000000) && [D.str r, d].all (litE 4)) = true
    rw [Bool.and_eq_true]
    refine ⟨rfl, List.all_eq_true.mpr fun x hx => ?_⟩
    rcases List.mem_cons.mp hx with rfl | hx
    · rfl
    · rw [List.mem_singleton.mp hx]; exact hd
theorem mk_dat (g : m.Good) : ∀ z ∈ m.list, dat 2 (.str z) = true := fun z hz => by
  obtain ⟨j, hj, rfl⟩ := List.getElem_of_mem hz
  have hj' : j < 10 := hj
  have hm : (ruleL[j]'hj', m.list[j]'hj') ∈ ruleL.zip m.list := by
    rw [List.mem_iff_getElem]
    exact ⟨j, by simpa [ruleL, MkD.list] using hj', by rw [List.getElem_zip]; rfl⟩
  obtain ⟨⟨chs, h3, h4, h5⟩⟩ := Chs.all g _ hm
  have k := (rcs_at hj').at_
  have e2 := D.tup.inj (Option.some.inj (h3.symm.trans k))
  have e3 : chs = chL[j]'hj' := (List.map_inj_right (fun _ _ e => D.str.inj e)).mp e2
  have h4 : m.list[j]'hj' ∈ chL[j]'hj' := e3 ▸ h4
  have : ∀ l ∈ chL, ∀ c ∈ l, c.length ≤ 1000 := by decide +kernel
  exact dat_str.mpr ⟨this _ (List.getElem_mem _) _ h4, ch_ok hj' _ h4⟩
theorem several_wp {b c : Addr} (hb : s.map b = some (.bag c)) (gm : m.Good) (q : ∀ s', Q (.bl true) s') : d_several [.ref b, m.ins] s Q E := by
  unfold d_several b_several
  simp -implicitDefEqProofs -failIfUnchanged only [word_snoc, DL.runs_D14, DL.runs_D15, DL.runs_D16, DL.runs_D17, DL.runs_D19, DL.runs_D20, DL.runs_D23, DL.runs_D24, DL.runs_D25, DL.runs_D26, DL.runs_D31, DL.runs_D34, DL.runs_D36, DL.runs_D38, DL.runs_D43, DL.runs_D45, DL.runs_mir, DL.runs_sp_exec, DL.runs_sp_fam2, DL.runs_sp_lit, DL.runs_sp_like2, DL.runs_sp_terms, DL.runs_sp_putn, DL.runs_sp_refused, Nat.reduceSub, Nat.reduceAdd, Nat.reduceLT, true_and]
  refine odd_wp hb fun o0 g0 => ?_
  simp -implicitDefEqProofs -failIfUnchanged only [word_snoc, DL.runs_D14, DL.runs_D15, DL.runs_D16, DL.runs_D17, DL.runs_D19, DL.runs_D20, DL.runs_D23, DL.runs_D24, DL.runs_D25, DL.runs_D26, DL.runs_D31, DL.runs_D34, DL.runs_D36, DL.runs_D38, DL.runs_D43, DL.runs_D45, DL.runs_mir, DL.runs_sp_exec, DL.runs_sp_fam2, DL.runs_sp_lit, DL.runs_sp_like2, DL.runs_sp_terms, DL.runs_sp_putn, DL.runs_sp_refused, Nat.reduceSub, Nat.reduceAdd, Nat.reduceLT, true_and]
  refine odd_wp hb fun o1 g1 => ?_
  simp -implicitDefEqProofs -failIfUnchanged only [word_snoc, DL.runs_D14, DL.runs_D15, DL.runs_D16, DL.runs_D17, DL.runs_D19, DL.runs_D20, DL.runs_D23, DL.runs_D24, DL.runs_D25, DL.runs_D26, DL.runs_D31, DL.runs_D34, DL.runs_D36, DL.runs_D38, DL.runs_D43, DL.runs_D45, DL.runs_mir, DL.runs_sp_exec, DL.runs_sp_fam2, DL.runs_sp_lit, DL.runs_sp_like2, DL.runs_sp_terms, DL.runs_sp_putn, DL.runs_sp_refused, Nat.reduceSub, Nat.reduceAdd, Nat.reduceLT, true_and]
  refine odd_wp hb fun o2 g2 => ?_
  simp -implicitDefEqProofs -failIfUnchanged only [word_snoc, DL.runs_D14, DL.runs_D15, DL.runs_D16, DL.runs_D17, DL.runs_D19, DL.runs_D20, DL.runs_D23, DL.runs_D24, DL.runs_D25, DL.runs_D26, DL.runs_D31, DL.runs_D34, DL.runs_D36, DL.runs_D38, DL.runs_D43, DL.runs_D45, DL.runs_mir, DL.runs_sp_exec, DL.runs_sp_fam2, DL.runs_sp_lit, DL.runs_sp_like2, DL.runs_sp_terms, DL.runs_sp_putn, DL.runs_sp_refused, Nat.reduceSub, Nat.reduceAdd, Nat.reduceLT, true_and]
  refine table_wp ?_
  unfold tableD
  simp -implicitDefEqProofs -failIfUnchanged only [word_snoc, DL.runs_D14, DL.runs_D15, DL.runs_D16, DL.runs_D17, DL.runs_D19, DL.runs_D20, DL.runs_D23, DL.runs_D24, DL.runs_D25, DL.runs_D26, DL.runs_D31, DL.runs_D34, DL.runs_D36, DL.runs_D38, DL.runs_D43, DL.runs_D45, DL.runs_mir, DL.runs_sp_exec, DL.runs_sp_fam2, DL.runs_sp_lit, DL.runs_sp_like2, DL.runs_sp_terms, DL.runs_sp_putn, DL.runs_sp_refused, Nat.reduceSub, Nat.reduceAdd, Nat.reduceLT, true_and, ite_src (show (rcs.map fun p => D.tup [.str p.1, .tup (p.2.map .str)]).length ≤ sizeLine by decide)]
  refine lc_filt (fun p : Str × List Str => D.tup [.str p.1, .tup (p.2.map .str)]) (fun p => .str p.1) (fun _ => true) rcs [] trivial (fun p hp => ⟨_, rfl, ?_, fun _ => ?_⟩) ?_
  · simp -implicitDefEqProofs -failIfUnchanged only [word_snoc, DL.runs_D14, DL.runs_D15, DL.runs_D16, DL.runs_D17, DL.runs_D19, DL.runs_D20, DL.runs_D23, DL.runs_D24, DL.runs_D25, DL.runs_D26, DL.runs_D31, DL.runs_D34, DL.runs_D36, DL.runs_D38, DL.runs_D43, DL.runs_D45, DL.runs_mir, DL.runs_sp_exec, DL.runs_sp_fam2, DL.runs_sp_lit, DL.runs_sp_like2, DL.runs_sp_terms, DL.runs_sp_putn, DL.runs_sp_refused, Nat.reduceSub, Nat.reduceAdd, Nat.reduceLT, true_and]
  · simp -implicitDefEqProofs -failIfUnchanged only [word_snoc, DL.runs_D14, DL.runs_D15, DL.runs_D16, DL.runs_D17, DL.runs_D19, DL.runs_D20, DL.runs_D23, DL.runs_D24, DL.runs_D25, DL.runs_D26, DL.runs_D31, DL.runs_D34, DL.runs_D36, DL.runs_D38, DL.runs_D43, DL.runs_D45, DL.runs_mir, DL.runs_sp_exec, DL.runs_sp_fam2, DL.runs_sp_lit, DL.runs_sp_like2, DL.runs_sp_terms, DL.runs_sp_putn, DL.runs_sp_refused, Nat.reduceSub, Nat.reduceAdd, Nat.reduceLT, true_and]
  rw [rcs_all, rcs_fsts]
  simp -implicitDefEqProofs -failIfUnchanged only [word_snoc, DL.runs_D14, DL.runs_D15, DL.runs_D16, DL.runs_D17, DL.runs_D19, DL.runs_D20, DL.runs_D23, DL.runs_D24, DL.runs_D25, DL.runs_D26, DL.runs_D31, DL.runs_D34, DL.runs_D36, DL.runs_D38, DL.runs_D43, DL.runs_D45, DL.runs_mir, DL.runs_sp_exec, DL.runs_sp_fam2, DL.runs_sp_lit, DL.runs_sp_like2, DL.runs_sp_terms, DL.runs_sp_putn, DL.runs_sp_refused, Nat.reduceSub, Nat.reduceAdd, Nat.reduceLT, true_and]
  refine ⟨_, rfl, Maker_written_wp ?_⟩
  refine ⟨_, dz03, fun a ha => ⟨_, rfl, ?_⟩⟩
  show loopS _ _ _ [D.int 0, D.int 1, D.int 2] _ _ _ _
  have l1 : (rkv (m.list.map D.str)).length < sizeLine := lt_sz (show 10 < 100000 by decide)
  simp -implicitDefEqProofs -failIfUnchanged only [word_snoc, DL.runs_D14, DL.runs_D15, DL.runs_D16, DL.runs_D17, DL.runs_D19, DL.runs_D20, DL.runs_D23, DL.runs_D24, DL.runs_D25, DL.runs_D26, DL.runs_D31, DL.runs_D34, DL.runs_D36, DL.runs_D38, DL.runs_D43, DL.runs_D45, DL.runs_mir, DL.runs_sp_exec, DL.runs_sp_fam2, DL.runs_sp_lit, DL.runs_sp_like2, DL.runs_sp_terms, DL.runs_sp_putn, DL.runs_sp_refused, Nat.reduceSub, Nat.reduceAdd, Nat.reduceLT, true_and, x_loop_cons]
  have e1 : putKD (rkv (m.list.map D.str)) (.inr "again") o0 = rkv ((m.list.map D.str).set 9 o0) := rkv_put (i := 9) rfl (by decide)
  have e2 : putKD (rkv ((m.list.map D.str).set 9 o0)) (.inr "place") o1 = rkv (((m.list.map D.str).set 9 o0).set 0 o1) := rkv_put (i := 0) rfl (by decide)
  have l2 : (rkv ((m.list.map D.str).set 9 o0)).length < sizeLine := lt_sz (show 10 < 100000 by decide)
  have l3 : (rkv (((m.list.map D.str).set 9 o0).set 0 o1)).length < sizeLine := lt_sz (show 10 < 100000 by decide)
  rw [sev_put]
  refine ⟨l1, by rw [e1]; exact l2, by rw [e1, e2]; exact l3, ?_⟩
  have f := sev_flat gm (dat_flat g0) (dat_flat g1) (dat_flat g2)
  have fd : ∀ d ∈ sev m o0 o1 o2, dat 2 d = true := fun d hd => by
    rcases List.mem_or_eq_of_mem_set hd with hd | rfl
    · rcases List.mem_or_eq_of_mem_set hd with hd | rfl
      · rcases List.mem_or_eq_of_mem_set hd with hd | rfl
        · obtain ⟨z, hz, rfl⟩ := List.mem_map.mp hd
          exact mk_dat gm z hz
        · exact g0
      · exact g1
    · exact g2
  have hl : (sev m o0 o1 o2).length = 10 := sev_len
  generalize hv : sev m o0 o1 o2 = ds at f fd hl
  have ha1 : (s.set a (.dic (rkv ds))).map a = some (.dic (rkv ds)) := S.set_same
  generalize (s.set a (.dic (rkv ds))) = s1 at ha1
  refine cutC (fun ρ' s' => s'.map a = some (.dic (rkv ds)) ∧ ∃ o4 o7 o8, ((∃ m' : MkD, m'.Good ∧ ds = m'.list.map .str ∧ ρ' = [some (.ref b), some m.ins, some (.lst [o0, o1, o2]), some (.ref a), o4, some .non, some m'.ins, o7, o8]) ∨
    ∃ r d, fw ds = some (r, d) ∧ ρ' = [some (.ref b), some m.ins, some (.lst [o0, o1, o2]), some (.ref a), o4, some (.tup [.str r, d]), some m.ins, o7, o8])) ?_ ?_
  · simp -implicitDefEqProofs -failIfUnchanged only [word_snoc, DL.runs_D14, DL.runs_D15, DL.runs_D16, DL.runs_D17, DL.runs_D19, DL.runs_D20, DL.runs_D23, DL.runs_D24, DL.runs_D25, DL.runs_D26, DL.runs_D31, DL.runs_D34, DL.runs_D36, DL.runs_D38, DL.runs_D43, DL.runs_D45, DL.runs_mir, DL.runs_sp_exec, DL.runs_sp_fam2, DL.runs_sp_lit, DL.runs_sp_like2, DL.runs_sp_terms, DL.runs_sp_putn, DL.runs_sp_refused, Nat.reduceSub, Nat.reduceAdd, Nat.reduceLT, true_and]
    refine ⟨_, rfl, changed3 gm (by rw [hv]; exact f) (fun m' gm' hd => ?_) fun r d s' n hx => ?_⟩
    · rw [hv] at hd
      exact ⟨ha1, _, _, _, .inl ⟨m', gm', hd, rfl⟩⟩
    · rw [hv] at n
      unfold wrongX
      simp -implicitDefEqProofs -failIfUnchanged only [word_snoc, DL.runs_D14, DL.runs_D15, DL.runs_D16, DL.runs_D17, DL.runs_D19, DL.runs_D20, DL.runs_D23, DL.runs_D24, DL.runs_D25, DL.runs_D26, DL.runs_D31, DL.runs_D34, DL.runs_D36, DL.runs_D38, DL.runs_D43, DL.runs_D45, DL.runs_mir, DL.runs_sp_exec, DL.runs_sp_fam2, DL.runs_sp_lit, DL.runs_sp_like2, DL.runs_sp_terms, DL.runs_sp_putn, DL.runs_sp_refused, Nat.reduceSub, Nat.reduceAdd, Nat.reduceLT, true_and]
      exact ⟨_, rfl, hx _ _ ha1, _, _, _, .inr ⟨r, d, n, rfl⟩⟩
  rintro ρ' s' ⟨ha2, o4, o7, o8, h⟩
  rcases h with ⟨m', gm', rfl, rfl⟩ | ⟨r, d, n, rfl⟩
  · simp -implicitDefEqProofs -failIfUnchanged only [word_snoc, DL.runs_D14, DL.runs_D15, DL.runs_D16, DL.runs_D17, DL.runs_D19, DL.runs_D20, DL.runs_D23, DL.runs_D24, DL.runs_D25, DL.runs_D26, DL.runs_D31, DL.runs_D34, DL.runs_D36, DL.runs_D38, DL.runs_D43, DL.runs_D45, DL.runs_mir, DL.runs_sp_exec, DL.runs_sp_fam2, DL.runs_sp_lit, DL.runs_sp_like2, DL.runs_sp_terms, DL.runs_sp_putn, DL.runs_sp_refused, Nat.reduceSub, Nat.reduceAdd, Nat.reduceLT, true_and]
    refine first_wrong_any ha2 hl f ?_
    rw [fw_of gm']
    refine like_refl 5 (x := .non) rfl ?_
    simp -implicitDefEqProofs -failIfUnchanged only [word_snoc, DL.runs_D14, DL.runs_D15, DL.runs_D16, DL.runs_D17, DL.runs_D19, DL.runs_D20, DL.runs_D23, DL.runs_D24, DL.runs_D25, DL.runs_D26, DL.runs_D31, DL.runs_D34, DL.runs_D36, DL.runs_D38, DL.runs_D43, DL.runs_D45, DL.runs_mir, DL.runs_sp_exec, DL.runs_sp_fam2, DL.runs_sp_lit, DL.runs_sp_like2, DL.runs_sp_terms, DL.runs_sp_putn, DL.runs_sp_refused, Nat.reduceSub, Nat.reduceAdd, Nat.reduceLT, true_and]
    refine ⟨_, rfl, Maker_written_wp ?_⟩
    refine table_wp ?_
    unfold tableD
    simp -implicitDefEqProofs -failIfUnchanged only [word_snoc, DL.runs_D14, DL.runs_D15, DL.runs_D16, DL.runs_D17, DL.runs_D19, DL.runs_D20, DL.runs_D23, DL.runs_D24, DL.runs_D25, DL.runs_D26, DL.runs_D31, DL.runs_D34, DL.runs_D36, DL.runs_D38, DL.runs_D43, DL.runs_D45, DL.runs_mir, DL.runs_sp_exec, DL.runs_sp_fam2, DL.runs_sp_lit, DL.runs_sp_like2, DL.runs_sp_terms, DL.runs_sp_putn, DL.runs_sp_refused, Nat.reduceSub, Nat.reduceAdd, Nat.reduceLT, true_and, ite_src (show (rcs.map fun p => D.tup [.str p.1, .tup (p.2.map .str)]).length ≤ sizeLine by decide)]
    have hg : ∀ p ∈ rcs, dgetD (.ref a) (.str p.1) s' = some ((dgetD (.ref a) (.str p.1) s').getD .non) := fun p hp => by
      obtain ⟨i, hi, rfl⟩ := List.getElem_of_mem hp
      have hi2 : i < 10 := hi
      rw [rcs_fst hi hi2, rkv_get ha2 hl hi2]; rfl
    have hvs : (rcs.map fun p => (dgetD (.ref a) (.str p.1) s').getD .non) = m'.list.map .str := by
      refine List.ext_getElem rfl fun i h1 h2 => ?_
      have hi : i < rcs.length := by rw [List.length_map] at h1; exact h1
      have hi2 : i < 10 := hi
      rw [List.getElem_map, rcs_fst hi hi2, rkv_get ha2 hl hi2]; rfl
    refine lc_filt (fun p : Str × List Str => D.tup [.str p.1, .tup (p.2.map .str)]) (fun p => (dgetD (.ref a) (.str p.1) s').getD .non) (fun _ => true) rcs [] trivial (fun p hp => ⟨_, rfl, ?_, fun _ => ?_⟩) ?_
    · simp -implicitDefEqProofs -failIfUnchanged only [word_snoc, DL.runs_D14, DL.runs_D15, DL.runs_D16, DL.runs_D17, DL.runs_D19, DL.runs_D20, DL.runs_D23, DL.runs_D24, DL.runs_D25, DL.runs_D26, DL.runs_D31, DL.runs_D34, DL.runs_D36, DL.runs_D38, DL.runs_D43, DL.runs_D45, DL.runs_mir, DL.runs_sp_exec, DL.runs_sp_fam2, DL.runs_sp_lit, DL.runs_sp_like2, DL.runs_sp_terms, DL.runs_sp_putn, DL.runs_sp_refused, Nat.reduceSub, Nat.reduceAdd, Nat.reduceLT, true_and]
    · simp -implicitDefEqProofs -failIfUnchanged only [word_snoc, DL.runs_D14, DL.runs_D15, DL.runs_D16, DL.runs_D17, DL.runs_D19, DL.runs_D20, DL.runs_D23, DL.runs_D24, DL.runs_D25, DL.runs_D26, DL.runs_D31, DL.runs_D34, DL.runs_D36, DL.runs_D38, DL.runs_D43, DL.runs_D45, DL.runs_mir, DL.runs_sp_exec, DL.runs_sp_fam2, DL.runs_sp_lit, DL.runs_sp_like2, DL.runs_sp_terms, DL.runs_sp_putn, DL.runs_sp_refused, Nat.reduceSub, Nat.reduceAdd, Nat.reduceLT, true_and]
      exact ⟨_, hg p hp, rfl, trivial⟩
    rw [rcs_all, hvs]
    simp -implicitDefEqProofs -failIfUnchanged only [word_snoc, DL.runs_D14, DL.runs_D15, DL.runs_D16, DL.runs_D17, DL.runs_D19, DL.runs_D20, DL.runs_D23, DL.runs_D24, DL.runs_D25, DL.runs_D26, DL.runs_D31, DL.runs_D34, DL.runs_D36, DL.runs_D38, DL.runs_D43, DL.runs_D45, DL.runs_mir, DL.runs_sp_exec, DL.runs_sp_fam2, DL.runs_sp_lit, DL.runs_sp_like2, DL.runs_sp_terms, DL.runs_sp_putn, DL.runs_sp_refused, Nat.reduceSub, Nat.reduceAdd, Nat.reduceLT, true_and, show neD m'.row (.tup (m'.list.map .str)) s' = _ from neD_of (eqB_T (list_ok gm') (list_ok gm')), decide_true]
    exact q _
  · simp -implicitDefEqProofs -failIfUnchanged only [word_snoc, DL.runs_D14, DL.runs_D15, DL.runs_D16, DL.runs_D17, DL.runs_D19, DL.runs_D20, DL.runs_D23, DL.runs_D24, DL.runs_D25, DL.runs_D26, DL.runs_D31, DL.runs_D34, DL.runs_D36, DL.runs_D38, DL.runs_D43, DL.runs_D45, DL.runs_mir, DL.runs_sp_exec, DL.runs_sp_fam2, DL.runs_sp_lit, DL.runs_sp_like2, DL.runs_sp_terms, DL.runs_sp_putn, DL.runs_sp_refused, Nat.reduceSub, Nat.reduceAdd, Nat.reduceLT, true_and]
    refine first_wrong_any ha2 hl f ?_
    have hlit := fwD_lit fd
    rw [n] at hlit ⊢
    refine like_refl 5 (x := .tup [.str r, d]) hlit ?_
    simp -implicitDefEqProofs -failIfUnchanged only [word_snoc, DL.runs_D14, DL.runs_D15, DL.runs_D16, DL.runs_D17, DL.runs_D19, DL.runs_D20, DL.runs_D23, DL.runs_D24, DL.runs_D25, DL.runs_D26, DL.runs_D31, DL.runs_D34, DL.runs_D36, DL.runs_D38, DL.runs_D43, DL.runs_D45, DL.runs_mir, DL.runs_sp_exec, DL.runs_sp_fam2, DL.runs_sp_lit, DL.runs_sp_like2, DL.runs_sp_terms, DL.runs_sp_putn, DL.runs_sp_refused, Nat.reduceSub, Nat.reduceAdd, Nat.reduceLT, true_and]
    exact q _
end
theorem eq_one {z : Str} {s : S} (h : PyData.strOk z = true) : eqD (.tup [.str z]) (.tup [.str z]) s = some (.bl true) := by
  have g : ∀ c ∈ [z], PyData.strOk c = true := fun c hc => by rw [List.mem_singleton.mp hc]; exact h
  exact (eq_strs (s := s) g g).trans (by rw [decide_eq_true rfl])
theorem law_true : d_law [.scr] S.nil (fun d _ => d = .bl true) (fun _ _ => False) := by
  unfold d_law b_law
  simp -implicitDefEqProofs -failIfUnchanged only [word_snoc, DL.runs_D14, DL.runs_D15, DL.runs_D16, DL.runs_D17, DL.runs_D19, DL.runs_D20, DL.runs_D23, DL.runs_D24, DL.runs_D25, DL.runs_D26, DL.runs_D31, DL.runs_D34, DL.runs_D36, DL.runs_D38, DL.runs_D43, DL.runs_D45, DL.runs_mir, DL.runs_sp_exec, DL.runs_sp_fam2, DL.runs_sp_lit, DL.runs_sp_like2, DL.runs_sp_terms, DL.runs_sp_putn, DL.runs_sp_refused, Nat.reduceSub, Nat.reduceAdd, Nat.reduceLT, true_and]
  refine ⟨rfl, fun b c hn h1 h2 => ?_⟩
  have hb : ((S.nil.set c .raw).set b (.bag c)).map b = some (.bag c) := S.set_same
  generalize ((S.nil.set c .raw).set b (.bag c)) = s at hb
  simp -implicitDefEqProofs -failIfUnchanged only [word_snoc, DL.runs_D14, DL.runs_D15, DL.runs_D16, DL.runs_D17, DL.runs_D19, DL.runs_D20, DL.runs_D23, DL.runs_D24, DL.runs_D25, DL.runs_D26, DL.runs_D31, DL.runs_D34, DL.runs_D36, DL.runs_D38, DL.runs_D43, DL.runs_D45, DL.runs_mir, DL.runs_sp_exec, DL.runs_sp_fam2, DL.runs_sp_lit, DL.runs_sp_like2, DL.runs_sp_terms, DL.runs_sp_putn, DL.runs_sp_refused, Nat.reduceSub, Nat.reduceAdd, Nat.reduceLT, true_and]
  refine rules03_wp hb fun m0 a g0 ha => ?_
  simp -implicitDefEqProofs -failIfUnchanged only [word_snoc, DL.runs_D14, DL.runs_D15, DL.runs_D16, DL.runs_D17, DL.runs_D19, DL.runs_D20, DL.runs_D23, DL.runs_D24, DL.runs_D25, DL.runs_D26, DL.runs_D31, DL.runs_D34, DL.runs_D36, DL.runs_D38, DL.runs_D43, DL.runs_D45, DL.runs_mir, DL.runs_sp_exec, DL.runs_sp_fam2, DL.runs_sp_lit, DL.runs_sp_like2, DL.runs_sp_terms, DL.runs_sp_putn, DL.runs_sp_refused, Nat.reduceSub, Nat.reduceAdd, Nat.reduceLT, true_and]
  have hb0 : (s.set a (.dic (rkv (m0.list.map .str)))).map b = some (.bag c) := map_keep hb ha
  have ha0 : (s.set a (.dic (rkv (m0.list.map D.str)))).map a = some (.dic (rkv (m0.list.map .str))) := S.set_same
  generalize (s.set a (.dic (rkv (m0.list.map D.str)))) = s0 at hb0 ha0
  have fl0 : ∀ d ∈ m0.list.map D.str, dat 2 d = true := fun d hd => by
    obtain ⟨z, hz, rfl⟩ := List.mem_map.mp hd
    exact mk_dat g0 z hz
  refine maker_any ha0 rfl (fun d hd => dat_flat (fl0 d hd)) (fun m gm _ => ?_) fun r d b' n _ => by rw [fw_of g0] at n; cases n
  simp -implicitDefEqProofs -failIfUnchanged only [word_snoc, DL.runs_D14, DL.runs_D15, DL.runs_D16, DL.runs_D17, DL.runs_D19, DL.runs_D20, DL.runs_D23, DL.runs_D24, DL.runs_D25, DL.runs_D26, DL.runs_D31, DL.runs_D34, DL.runs_D36, DL.runs_D38, DL.runs_D43, DL.runs_D45, DL.runs_mir, DL.runs_sp_exec, DL.runs_sp_fam2, DL.runs_sp_lit, DL.runs_sp_like2, DL.runs_sp_terms, DL.runs_sp_putn, DL.runs_sp_refused, Nat.reduceSub, Nat.reduceAdd, Nat.reduceLT, true_and]
  refine draw_wp hb0 (by decide) (by decide) fun v v0 v1 => ?_
  simp -implicitDefEqProofs -failIfUnchanged only [word_snoc, DL.runs_D14, DL.runs_D15, DL.runs_D16, DL.runs_D17, DL.runs_D19, DL.runs_D20, DL.runs_D23, DL.runs_D24, DL.runs_D25, DL.runs_D26, DL.runs_D31, DL.runs_D34, DL.runs_D36, DL.runs_D38, DL.runs_D43, DL.runs_D45, DL.runs_mir, DL.runs_sp_exec, DL.runs_sp_fam2, DL.runs_sp_lit, DL.runs_sp_like2, DL.runs_sp_terms, DL.runs_sp_putn, DL.runs_sp_refused, Nat.reduceSub, Nat.reduceAdd, Nat.reduceLT, true_and, range1_nat v0 (show v ≤ 1000000 by omega)]
  refine loop_inv (fun xs ρ s' => ∃ ds : List D, ds.length = 10 ∧ (∀ d ∈ ds, dat 2 d = true) ∧ s'.map a = some (.dic (rkv ds)) ∧ s'.map b = some (.bag c) ∧ ∃ o4, ρ = [some .scr, some (.ref b), some (.ref a), some m.ins, o4, none, none, none, none, none, none]) _ _ _ ?_ ?_ ?_
  · exact ⟨_, rfl, fl0, ha0, hb0, _, rfl⟩
  · rintro x xs ρ s' ⟨ds, hl, hd, ha', hb', o4, rfl⟩
    refine ⟨trivial, _, rfl, ?_⟩
    simp -implicitDefEqProofs -failIfUnchanged only [word_snoc, DL.runs_D14, DL.runs_D15, DL.runs_D16, DL.runs_D17, DL.runs_D19, DL.runs_D20, DL.runs_D23, DL.runs_D24, DL.runs_D25, DL.runs_D26, DL.runs_D31, DL.runs_D34, DL.runs_D36, DL.runs_D38, DL.runs_D43, DL.runs_D45, DL.runs_mir, DL.runs_sp_exec, DL.runs_sp_fam2, DL.runs_sp_lit, DL.runs_sp_like2, DL.runs_sp_terms, DL.runs_sp_putn, DL.runs_sp_refused, Nat.reduceSub, Nat.reduceAdd, Nat.reduceLT, true_and]
    refine odd_wp hb' fun d gd => ?_
    refine table_wp ?_
    refine draw_wp hb' (by decide) (by decide) fun w w0 w1 => ?_
    obtain ⟨i, rfl⟩ := Int.eq_ofNat_of_zero_le w0
    have hi : i < 10 := by omega
    have hn' : a ≠ b := fun e => by rw [e, hb'] at ha'; cases ha'
    refine ⟨_, tab_at hi, _, rfl, ?_⟩
    rw [x_setKey ha']
    refine ⟨_, rfl, ?_, ds.set i d, by rw [List.length_set]; exact hl, fun x hx => ?_, ?_, ?_, _, rfl⟩
    · rw [show (rkv ds).length = 10 by unfold rkv; rw [List.length_zip, hl]; rfl]
      exact lt_sz (by decide)
    · rcases List.mem_or_eq_of_mem_set hx with hx | rfl
      · exact hd x hx
      · exact gd
    · rw [rkv_put hl hi]; exact S.set_same
    · rw [S.set_ne (Ne.symm hn')]; exact hb'
  rintro ρ s' ⟨ds, hl, hd, ha', hb', o4, rfl⟩
  refine ⟨trivial, ?_⟩
  simp -implicitDefEqProofs -failIfUnchanged only [word_snoc, DL.runs_D14, DL.runs_D15, DL.runs_D16, DL.runs_D17, DL.runs_D19, DL.runs_D20, DL.runs_D23, DL.runs_D24, DL.runs_D25, DL.runs_D26, DL.runs_D31, DL.runs_D34, DL.runs_D36, DL.runs_D38, DL.runs_D43, DL.runs_D45, DL.runs_mir, DL.runs_sp_exec, DL.runs_sp_fam2, DL.runs_sp_lit, DL.runs_sp_like2, DL.runs_sp_terms, DL.runs_sp_putn, DL.runs_sp_refused, Nat.reduceSub, Nat.reduceAdd, Nat.reduceLT, true_and]
  have fl : ∀ d ∈ ds, flat d = true := fun d h => dat_flat (hd d h)
  refine first_wrong_any ha' hl fl ?_
  simp -implicitDefEqProofs -failIfUnchanged only [word_snoc, DL.runs_D14, DL.runs_D15, DL.runs_D16, DL.runs_D17, DL.runs_D19, DL.runs_D20, DL.runs_D23, DL.runs_D24, DL.runs_D25, DL.runs_D26, DL.runs_D31, DL.runs_D34, DL.runs_D36, DL.runs_D38, DL.runs_D43, DL.runs_D45, DL.runs_mir, DL.runs_sp_exec, DL.runs_sp_fam2, DL.runs_sp_lit, DL.runs_sp_like2, DL.runs_sp_terms, DL.runs_sp_putn, DL.runs_sp_refused, Nat.reduceSub, Nat.reduceAdd, Nat.reduceLT, true_and]
  refine cutC (fun ρ' s2 => Ext s' s2 ∧ ∃ o4 o7, ρ' = [some .scr, some (.ref b), some (.ref a), some m.ins, o4, some (fwD (fw ds)), some (fwD (fw ds)), o7, none, none, none]) ?_ ?_
  · simp -implicitDefEqProofs -failIfUnchanged only [word_snoc, DL.runs_D14, DL.runs_D15, DL.runs_D16, DL.runs_D17, DL.runs_D19, DL.runs_D20, DL.runs_D23, DL.runs_D24, DL.runs_D25, DL.runs_D26, DL.runs_D31, DL.runs_D34, DL.runs_D36, DL.runs_D38, DL.runs_D43, DL.runs_D45, DL.runs_mir, DL.runs_sp_exec, DL.runs_sp_fam2, DL.runs_sp_lit, DL.runs_sp_like2, DL.runs_sp_terms, DL.runs_sp_putn, DL.runs_sp_refused, Nat.reduceSub, Nat.reduceAdd, Nat.reduceLT, true_and]
    refine maker_any ha' hl fl (fun m' gm' hm => ?_) fun r d b' n hb' => ?_
    · rw [hm, fw_of gm']
      exact ⟨Ext.refl, _, _, rfl⟩
    · rw [n]
      unfold wrongX
      simp -implicitDefEqProofs -failIfUnchanged only [word_snoc, DL.runs_D14, DL.runs_D15, DL.runs_D16, DL.runs_D17, DL.runs_D19, DL.runs_D20, DL.runs_D23, DL.runs_D24, DL.runs_D25, DL.runs_D26, DL.runs_D31, DL.runs_D34, DL.runs_D36, DL.runs_D38, DL.runs_D43, DL.runs_D45, DL.runs_mir, DL.runs_sp_exec, DL.runs_sp_fam2, DL.runs_sp_lit, DL.runs_sp_like2, DL.runs_sp_terms, DL.runs_sp_putn, DL.runs_sp_refused, Nat.reduceSub, Nat.reduceAdd, Nat.reduceLT, true_and]
      exact ⟨_, rfl, Ext.new hb', _, _, rfl⟩
  rintro ρ' s2 ⟨hx, o4, o7, rfl⟩
  simp -implicitDefEqProofs -failIfUnchanged only [word_snoc, DL.runs_D14, DL.runs_D15, DL.runs_D16, DL.runs_D17, DL.runs_D19, DL.runs_D20, DL.runs_D23, DL.runs_D24, DL.runs_D25, DL.runs_D26, DL.runs_D31, DL.runs_D34, DL.runs_D36, DL.runs_D38, DL.runs_D43, DL.runs_D45, DL.runs_mir, DL.runs_sp_exec, DL.runs_sp_fam2, DL.runs_sp_lit, DL.runs_sp_like2, DL.runs_sp_terms, DL.runs_sp_putn, DL.runs_sp_refused, Nat.reduceSub, Nat.reduceAdd, Nat.reduceLT, true_and]
  refine like_refl 5 (fwD_lit hd) ?_
  simp -implicitDefEqProofs -failIfUnchanged only [word_snoc, DL.runs_D14, DL.runs_D15, DL.runs_D16, DL.runs_D17, DL.runs_D19, DL.runs_D20, DL.runs_D23, DL.runs_D24, DL.runs_D25, DL.runs_D26, DL.runs_D31, DL.runs_D34, DL.runs_D36, DL.runs_D38, DL.runs_D43, DL.runs_D45, DL.runs_mir, DL.runs_sp_exec, DL.runs_sp_fam2, DL.runs_sp_lit, DL.runs_sp_like2, DL.runs_sp_terms, DL.runs_sp_putn, DL.runs_sp_refused, Nat.reduceSub, Nat.reduceAdd, Nat.reduceLT, true_and]
  have hb2 := hx _ _ hb'
  refine odd_wp hb2 fun d1 gd1 => ?_
  simp -implicitDefEqProofs -failIfUnchanged only [word_snoc, DL.runs_D14, DL.runs_D15, DL.runs_D16, DL.runs_D17, DL.runs_D19, DL.runs_D20, DL.runs_D23, DL.runs_D24, DL.runs_D25, DL.runs_D26, DL.runs_D31, DL.runs_D34, DL.runs_D36, DL.runs_D38, DL.runs_D43, DL.runs_D45, DL.runs_mir, DL.runs_sp_exec, DL.runs_sp_fam2, DL.runs_sp_lit, DL.runs_sp_like2, DL.runs_sp_terms, DL.runs_sp_putn, DL.runs_sp_refused, Nat.reduceSub, Nat.reduceAdd, Nat.reduceLT, true_and]
  refine cutC (fun ρ' s3 => s3 = s2 ∧ ∃ d o4 o6 o7, dat 2 d = true ∧ ρ' = [some .scr, some (.ref b), some (.ref a), some m.ins, o4, some (fwD (fw ds)), o6, o7, some d, none, none]) ?_ ?_
  · simp -implicitDefEqProofs -failIfUnchanged only [word_snoc, DL.runs_D14, DL.runs_D15, DL.runs_D16, DL.runs_D17, DL.runs_D19, DL.runs_D20, DL.runs_D23, DL.runs_D24, DL.runs_D25, DL.runs_D26, DL.runs_D31, DL.runs_D34, DL.runs_D36, DL.runs_D38, DL.runs_D43, DL.runs_D45, DL.runs_mir, DL.runs_sp_exec, DL.runs_sp_fam2, DL.runs_sp_lit, DL.runs_sp_like2, DL.runs_sp_terms, DL.runs_sp_putn, DL.runs_sp_refused, Nat.reduceSub, Nat.reduceAdd, Nat.reduceLT, true_and]
    refine draw_wp hb2 (by decide) (by decide) fun v v0 v1 => ?_
    simp -implicitDefEqProofs -failIfUnchanged only [word_snoc, DL.runs_D14, DL.runs_D15, DL.runs_D16, DL.runs_D17, DL.runs_D19, DL.runs_D20, DL.runs_D23, DL.runs_D24, DL.runs_D25, DL.runs_D26, DL.runs_D31, DL.runs_D34, DL.runs_D36, DL.runs_D38, DL.runs_D43, DL.runs_D45, DL.runs_mir, DL.runs_sp_exec, DL.runs_sp_fam2, DL.runs_sp_lit, DL.runs_sp_like2, DL.runs_sp_terms, DL.runs_sp_putn, DL.runs_sp_refused, Nat.reduceSub, Nat.reduceAdd, Nat.reduceLT, true_and]
    refine selB_of (fun _ => ?_) fun _ => ?_
    · refine table_wp ?_
      refine draw_wp hb2 (by decide) (by decide) fun w w0 w1 => ?_
      obtain ⟨i, rfl⟩ := Int.eq_ofNat_of_zero_le w0
      have hi : i < 10 := by omega
      exact ⟨_, tab_at hi, _, rfl, rfl, _, _, _, _, rule_dat hi, rfl⟩
    · exact ⟨_, _, _, _, gd1, rfl⟩
  rintro ρ' s3 ⟨rfl, d, o4, o6, o7, gd, rfl⟩
  have gf := dat_flat gd
  refine cutC (fun ρ' s4 => s4 = s3 ∧ ρ' = [some .scr, some (.ref b), some (.ref a), some m.ins, o4, some (fwD (fw ds)), o6, o7, some d, some (.bl (isRule d)), none]) ?_ ?_
  · simp -implicitDefEqProofs -failIfUnchanged only [word_snoc, DL.runs_D14, DL.runs_D15, DL.runs_D16, DL.runs_D17, DL.runs_D19, DL.runs_D20, DL.runs_D23, DL.runs_D24, DL.runs_D25, DL.runs_D26, DL.runs_D31, DL.runs_D34, DL.runs_D36, DL.runs_D38, DL.runs_D43, DL.runs_D45, DL.runs_mir, DL.runs_sp_exec, DL.runs_sp_fam2, DL.runs_sp_lit, DL.runs_sp_like2, DL.runs_sp_terms, DL.runs_sp_putn, DL.runs_sp_refused, Nat.reduceSub, Nat.reduceAdd, Nat.reduceLT, true_and, isi_str3 gf]
    cases d with
    | str z =>
      simp -implicitDefEqProofs -failIfUnchanged only [word_snoc, DL.runs_D14, DL.runs_D15, DL.runs_D16, DL.runs_D17, DL.runs_D19, DL.runs_D20, DL.runs_D23, DL.runs_D24, DL.runs_D25, DL.runs_D26, DL.runs_D31, DL.runs_D34, DL.runs_D36, DL.runs_D38, DL.runs_D43, DL.runs_D45, DL.runs_mir, DL.runs_sp_exec, DL.runs_sp_fam2, DL.runs_sp_lit, DL.runs_sp_like2, DL.runs_sp_terms, DL.runs_sp_putn, DL.runs_sp_refused, Nat.reduceSub, Nat.reduceAdd, Nat.reduceLT, true_and]
      refine table_wp ?_
      unfold tableD
      simp -implicitDefEqProofs -failIfUnchanged only [word_snoc, DL.runs_D14, DL.runs_D15, DL.runs_D16, DL.runs_D17, DL.runs_D19, DL.runs_D20, DL.runs_D23, DL.runs_D24, DL.runs_D25, DL.runs_D26, DL.runs_D31, DL.runs_D34, DL.runs_D36, DL.runs_D38, DL.runs_D43, DL.runs_D45, DL.runs_mir, DL.runs_sp_exec, DL.runs_sp_fam2, DL.runs_sp_lit, DL.runs_sp_like2, DL.runs_sp_terms, DL.runs_sp_putn, DL.runs_sp_refused, Nat.reduceSub, Nat.reduceAdd, Nat.reduceLT, true_and, ite_src (show (rcs.map fun p => D.tup [.str p.1, .tup (p.2.map .str)]).length ≤ sizeLine by decide)]
      refine lc_filt (fun p : Str × List Str => D.tup [.str p.1, .tup (p.2.map .str)]) (fun p => .str p.1) (fun _ => true) rcs [] trivial (fun p hp => ⟨_, rfl, ?_, fun _ => ?_⟩) ?_
      · simp -implicitDefEqProofs -failIfUnchanged only [word_snoc, DL.runs_D14, DL.runs_D15, DL.runs_D16, DL.runs_D17, DL.runs_D19, DL.runs_D20, DL.runs_D23, DL.runs_D24, DL.runs_D25, DL.runs_D26, DL.runs_D31, DL.runs_D34, DL.runs_D36, DL.runs_D38, DL.runs_D43, DL.runs_D45, DL.runs_mir, DL.runs_sp_exec, DL.runs_sp_fam2, DL.runs_sp_lit, DL.runs_sp_like2, DL.runs_sp_terms, DL.runs_sp_putn, DL.runs_sp_refused, Nat.reduceSub, Nat.reduceAdd, Nat.reduceLT, true_and]
      · simp -implicitDefEqProofs -failIfUnchanged only [word_snoc, DL.runs_D14, DL.runs_D15, DL.runs_D16, DL.runs_D17, DL.runs_D19, DL.runs_D20, DL.runs_D23, DL.runs_D24, DL.runs_D25, DL.runs_D26, DL.runs_D31, DL.runs_D34, DL.runs_D36, DL.runs_D38, DL.runs_D43, DL.runs_D45, DL.runs_mir, DL.runs_sp_exec, DL.runs_sp_fam2, DL.runs_sp_lit, DL.runs_sp_like2, DL.runs_sp_terms, DL.runs_sp_putn, DL.runs_sp_refused, Nat.reduceSub, Nat.reduceAdd, Nat.reduceLT, true_and]
      rw [rcs_all, rcs_fsts]
      simp -implicitDefEqProofs -failIfUnchanged only [word_snoc, DL.runs_D14, DL.runs_D15, DL.runs_D16, DL.runs_D17, DL.runs_D19, DL.runs_D20, DL.runs_D23, DL.runs_D24, DL.runs_D25, DL.runs_D26, DL.runs_D31, DL.runs_D34, DL.runs_D36, DL.runs_D38, DL.runs_D43, DL.runs_D45, DL.runs_mir, DL.runs_sp_exec, DL.runs_sp_fam2, DL.runs_sp_lit, DL.runs_sp_like2, DL.runs_sp_terms, DL.runs_sp_putn, DL.runs_sp_refused, Nat.reduceSub, Nat.reduceAdd, Nat.reduceLT, true_and, inL_strs]
      rfl
    | _ => simp -implicitDefEqProofs -failIfUnchanged only [word_snoc, DL.runs_D14, DL.runs_D15, DL.runs_D16, DL.runs_D17, DL.runs_D19, DL.runs_D20, DL.runs_D23, DL.runs_D24, DL.runs_D25, DL.runs_D26, DL.runs_D31, DL.runs_D34, DL.runs_D36, DL.runs_D38, DL.runs_D43, DL.runs_D45, DL.runs_mir, DL.runs_sp_exec, DL.runs_sp_fam2, DL.runs_sp_lit, DL.runs_sp_like2, DL.runs_sp_terms, DL.runs_sp_putn, DL.runs_sp_refused, Nat.reduceSub, Nat.reduceAdd, Nat.reduceLT, true_and]; rfl
  rintro ρ' s4 ⟨rfl, rfl⟩
  have lit1 : litE 5 (.tup [d]) = true := by
    show (decide (1 ≤ 1000000) && [d].all (litE 4)) = true
    have hd4 : litE 4 d = true := dat_lit (dat_mono (n := 2) (k := 2) gd)
    rw [List.all_cons, hd4]; rfl
  simp -implicitDefEqProofs -failIfUnchanged only [word_snoc, DL.runs_D14, DL.runs_D15, DL.runs_D16, DL.runs_D17, DL.runs_D19, DL.runs_D20, DL.runs_D23, DL.runs_D24, DL.runs_D25, DL.runs_D26, DL.runs_D31, DL.runs_D34, DL.runs_D36, DL.runs_D38, DL.runs_D43, DL.runs_D45, DL.runs_mir, DL.runs_sp_exec, DL.runs_sp_fam2, DL.runs_sp_lit, DL.runs_sp_like2, DL.runs_sp_terms, DL.runs_sp_putn, DL.runs_sp_refused, Nat.reduceSub, Nat.reduceAdd, Nat.reduceLT, true_and]
  refine cutC (fun ρ' s5 => s5 = s4 ∧ ∃ o7, ρ' = [some .scr, some (.ref b), some (.ref a), some m.ins, o4, some (fwD (fw ds)), some (if isRule d = true then .tup [] else .tup [d]), o7, some d, some (.bl (isRule d)), none]) ?_ ?_
  · simp -implicitDefEqProofs -failIfUnchanged only [word_snoc, DL.runs_D14, DL.runs_D15, DL.runs_D16, DL.runs_D17, DL.runs_D19, DL.runs_D20, DL.runs_D23, DL.runs_D24, DL.runs_D25, DL.runs_D26, DL.runs_D31, DL.runs_D34, DL.runs_D36, DL.runs_D38, DL.runs_D43, DL.runs_D45, DL.runs_mir, DL.runs_sp_exec, DL.runs_sp_fam2, DL.runs_sp_lit, DL.runs_sp_like2, DL.runs_sp_terms, DL.runs_sp_putn, DL.runs_sp_refused, Nat.reduceSub, Nat.reduceAdd, Nat.reduceLT, true_and]
    refine choices_any gf (fun h x => ?_) fun h => ?_
    · rw [if_pos h]
      exact ⟨rfl, _, rfl⟩
    · rw [if_neg (by rw [h]; decide)]
      unfold noRuleX
      simp -implicitDefEqProofs -failIfUnchanged only [word_snoc, DL.runs_D14, DL.runs_D15, DL.runs_D16, DL.runs_D17, DL.runs_D19, DL.runs_D20, DL.runs_D23, DL.runs_D24, DL.runs_D25, DL.runs_D26, DL.runs_D31, DL.runs_D34, DL.runs_D36, DL.runs_D38, DL.runs_D43, DL.runs_D45, DL.runs_mir, DL.runs_sp_exec, DL.runs_sp_fam2, DL.runs_sp_lit, DL.runs_sp_like2, DL.runs_sp_terms, DL.runs_sp_putn, DL.runs_sp_refused, Nat.reduceSub, Nat.reduceAdd, Nat.reduceLT, true_and]
      exact ⟨_, if_pos trivial, _, rfl⟩
  rintro ρ' s5 ⟨rfl, o7', rfl⟩
  cases hr : isRule d
  all_goals
    simp only [hr, if_true, Bool.false_eq_true, if_false]
    simp -implicitDefEqProofs -failIfUnchanged only [word_snoc, DL.runs_D14, DL.runs_D15, DL.runs_D16, DL.runs_D17, DL.runs_D19, DL.runs_D20, DL.runs_D23, DL.runs_D24, DL.runs_D25, DL.runs_D26, DL.runs_D31, DL.runs_D34, DL.runs_D36, DL.runs_D38, DL.runs_D43, DL.runs_D45, DL.runs_mir, DL.runs_sp_exec, DL.runs_sp_fam2, DL.runs_sp_lit, DL.runs_sp_like2, DL.runs_sp_terms, DL.runs_sp_putn, DL.runs_sp_refused, Nat.reduceSub, Nat.reduceAdd, Nat.reduceLT, true_and]
    first
      | refine like_refl 5 lit1 ?_
      | refine like_refl 5 (x := .tup []) rfl ?_
    simp -implicitDefEqProofs -failIfUnchanged only [word_snoc, DL.runs_D14, DL.runs_D15, DL.runs_D16, DL.runs_D17, DL.runs_D19, DL.runs_D20, DL.runs_D23, DL.runs_D24, DL.runs_D25, DL.runs_D26, DL.runs_D31, DL.runs_D34, DL.runs_D36, DL.runs_D38, DL.runs_D43, DL.runs_D45, DL.runs_mir, DL.runs_sp_exec, DL.runs_sp_fam2, DL.runs_sp_lit, DL.runs_sp_like2, DL.runs_sp_terms, DL.runs_sp_putn, DL.runs_sp_refused, Nat.reduceSub, Nat.reduceAdd, Nat.reduceLT, true_and]
    refine cutC (fun ρ' s6 => s6 = s5 ∧ ∃ o7, ρ' = [some .scr, some (.ref b), some (.ref a), some m.ins, o4, some (fwD (fw ds)), some (if isRule d = true then .tup [] else .tup [d]), o7, some d, some (.bl (isRule d)), none]) ?_ ?_
    · simp -implicitDefEqProofs -failIfUnchanged only [word_snoc, DL.runs_D14, DL.runs_D15, DL.runs_D16, DL.runs_D17, DL.runs_D19, DL.runs_D20, DL.runs_D23, DL.runs_D24, DL.runs_D25, DL.runs_D26, DL.runs_D31, DL.runs_D34, DL.runs_D36, DL.runs_D38, DL.runs_D43, DL.runs_D45, DL.runs_mir, DL.runs_sp_exec, DL.runs_sp_fam2, DL.runs_sp_lit, DL.runs_sp_like2, DL.runs_sp_terms, DL.runs_sp_putn, DL.runs_sp_refused, Nat.reduceSub, Nat.reduceAdd, Nat.reduceLT, true_and]
      refine ⟨_, rfl, choice_any gf (fun h x => ?_) fun h => ?_⟩
      · rw [if_pos h, h]
        rw [hr] at h
        first
          | exact absurd h (by decide)
          | exact ⟨rfl, _, rfl⟩
      · rw [if_neg (by rw [h]; decide), h]
        rw [hr] at h
        first
          | exact absurd h (by decide)
          | (unfold noRuleX; simp -implicitDefEqProofs -failIfUnchanged only [word_snoc, DL.runs_D14, DL.runs_D15, DL.runs_D16, DL.runs_D17, DL.runs_D19, DL.runs_D20, DL.runs_D23, DL.runs_D24, DL.runs_D25, DL.runs_D26, DL.runs_D31, DL.runs_D34, DL.runs_D36, DL.runs_D38, DL.runs_D43, DL.runs_D45, DL.runs_mir, DL.runs_sp_exec, DL.runs_sp_fam2, DL.runs_sp_lit, DL.runs_sp_like2, DL.runs_sp_terms, DL.runs_sp_putn, DL.runs_sp_refused, Nat.reduceSub, Nat.reduceAdd, Nat.reduceLT, true_and]; exact ⟨_, if_pos trivial, _, rfl⟩)
    rintro ρ' s6 ⟨rfl, o8', rfl⟩
    simp only [hr, if_true, Bool.false_eq_true, if_false]
    simp -implicitDefEqProofs -failIfUnchanged only [word_snoc, DL.runs_D14, DL.runs_D15, DL.runs_D16, DL.runs_D17, DL.runs_D19, DL.runs_D20, DL.runs_D23, DL.runs_D24, DL.runs_D25, DL.runs_D26, DL.runs_D31, DL.runs_D34, DL.runs_D36, DL.runs_D38, DL.runs_D43, DL.runs_D45, DL.runs_mir, DL.runs_sp_exec, DL.runs_sp_fam2, DL.runs_sp_lit, DL.runs_sp_like2, DL.runs_sp_terms, DL.runs_sp_putn, DL.runs_sp_refused, Nat.reduceSub, Nat.reduceAdd, Nat.reduceLT, true_and]
    first
      | refine like_refl 5 lit1 ?_
      | refine like_refl 5 (x := .tup []) rfl ?_
    simp -implicitDefEqProofs -failIfUnchanged only [word_snoc, DL.runs_D14, DL.runs_D15, DL.runs_D16, DL.runs_D17, DL.runs_D19, DL.runs_D20, DL.runs_D23, DL.runs_D24, DL.runs_D25, DL.runs_D26, DL.runs_D31, DL.runs_D34, DL.runs_D36, DL.runs_D38, DL.runs_D43, DL.runs_D45, DL.runs_mir, DL.runs_sp_exec, DL.runs_sp_fam2, DL.runs_sp_lit, DL.runs_sp_like2, DL.runs_sp_terms, DL.runs_sp_putn, DL.runs_sp_refused, Nat.reduceSub, Nat.reduceAdd, Nat.reduceLT, true_and]
    refine cutC (fun ρ' s7 => s7 = s6 ∧ ∃ o7 o8 o9 o10, ρ' = [some .scr, some (.ref b), some (.ref a), some m.ins, o4, some (fwD (fw ds)), some (.tup [.str "post"]), o7, o8, o9, o10]) ?_ ?_
    · simp -implicitDefEqProofs -failIfUnchanged only [word_snoc, DL.runs_D14, DL.runs_D15, DL.runs_D16, DL.runs_D17, DL.runs_D19, DL.runs_D20, DL.runs_D23, DL.runs_D24, DL.runs_D25, DL.runs_D26, DL.runs_D31, DL.runs_D34, DL.runs_D36, DL.runs_D38, DL.runs_D43, DL.runs_D45, DL.runs_mir, DL.runs_sp_exec, DL.runs_sp_fam2, DL.runs_sp_lit, DL.runs_sp_like2, DL.runs_sp_terms, DL.runs_sp_putn, DL.runs_sp_refused, Nat.reduceSub, Nat.reduceAdd, Nat.reduceLT, true_and]
      refine ⟨_, rfl, odd_wp hb2 fun d3 g3 => ?_⟩
      refine changed_post ?_
      unfold noRuleX
      simp -implicitDefEqProofs -failIfUnchanged only [word_snoc, DL.runs_D14, DL.runs_D15, DL.runs_D16, DL.runs_D17, DL.runs_D19, DL.runs_D20, DL.runs_D23, DL.runs_D24, DL.runs_D25, DL.runs_D26, DL.runs_D31, DL.runs_D34, DL.runs_D36, DL.runs_D38, DL.runs_D43, DL.runs_D45, DL.runs_mir, DL.runs_sp_exec, DL.runs_sp_fam2, DL.runs_sp_lit, DL.runs_sp_like2, DL.runs_sp_terms, DL.runs_sp_putn, DL.runs_sp_refused, Nat.reduceSub, Nat.reduceAdd, Nat.reduceLT, true_and]
      exact ⟨_, if_pos trivial, _, _, _, _, rfl⟩
    rintro ρ' s7 ⟨rfl, o7, o8, o9, o10, rfl⟩
    simp -implicitDefEqProofs -failIfUnchanged only [word_snoc, DL.runs_D14, DL.runs_D15, DL.runs_D16, DL.runs_D17, DL.runs_D19, DL.runs_D20, DL.runs_D23, DL.runs_D24, DL.runs_D25, DL.runs_D26, DL.runs_D31, DL.runs_D34, DL.runs_D36, DL.runs_D38, DL.runs_D43, DL.runs_D45, DL.runs_mir, DL.runs_sp_exec, DL.runs_sp_fam2, DL.runs_sp_lit, DL.runs_sp_like2, DL.runs_sp_terms, DL.runs_sp_putn, DL.runs_sp_refused, Nat.reduceSub, Nat.reduceAdd, Nat.reduceLT, true_and, eq_one (z := "post") (s := s7) (by decide +kernel)]
    refine several_wp hb2 gm fun s8 => ?_
    simp -implicitDefEqProofs -failIfUnchanged only [word_snoc, DL.runs_D14, DL.runs_D15, DL.runs_D16, DL.runs_D17, DL.runs_D19, DL.runs_D20, DL.runs_D23, DL.runs_D24, DL.runs_D25, DL.runs_D26, DL.runs_D31, DL.runs_D34, DL.runs_D36, DL.runs_D38, DL.runs_D43, DL.runs_D45, DL.runs_mir, DL.runs_sp_exec, DL.runs_sp_fam2, DL.runs_sp_lit, DL.runs_sp_like2, DL.runs_sp_terms, DL.runs_sp_putn, DL.runs_sp_refused, Nat.reduceSub, Nat.reduceAdd, Nat.reduceLT, true_and]
    refine unknown_wp ?_
    exact ⟨_, eq_one (by decide +kernel), rfl⟩
end DL
namespace DL
open PySem L2
def topS (i : Nat) : Stmt := PySem.Challenge.pw_oneandonly_k03_makers_refused.main.body.getD i (.Pass ⟨0, 0, 0, 0⟩)
abbrev s_bag : Stmt := topS 9
abbrev N_bag : List Str := ["_law_script", "_law_seed", "_law_cell"]
theorem sc_bag : FnScope N_bag ["_law_script"] (defScope s_bag) := ⟨rfl, rfl, rfl, by decide +kernel, rfl, by decide +kernel, by decide +kernel⟩
abbrev s_table : Stmt := topS 15
abbrev N_table : List Str := []
theorem sc_table : FnScope N_table [] (defScope s_table) := ⟨rfl, rfl, rfl, by decide +kernel, rfl, by decide +kernel, by decide +kernel⟩
abbrev s_mixed : Stmt := topS 10
abbrev N_mixed : List Str := ["_law_seed", "_law_count", "_law_one", "_law_two"]
theorem sc_mixed : FnScope N_mixed ["_law_seed", "_law_count"] (defScope s_mixed) := ⟨rfl, rfl, rfl, by decide +kernel, rfl, by decide +kernel, by decide +kernel⟩
abbrev s_draw : Stmt := topS 11
abbrev N_draw : List Str := ["_law_bag_here", "_law_limit", "_law_cell", "_law_digit"]
theorem sc_draw : FnScope N_draw ["_law_bag_here", "_law_limit"] (defScope s_draw) := ⟨rfl, rfl, rfl, by decide +kernel, rfl, by decide +kernel, by decide +kernel⟩
abbrev s_rules : Stmt := topS 16
abbrev N_rules : List Str := ["_law_bag_here", "_law_rules_here", "_law_row"]
theorem sc_rules : FnScope N_rules ["_law_bag_here"] (defScope s_rules) := ⟨rfl, rfl, rfl, by decide +kernel, rfl, by decide +kernel, by decide +kernel⟩
abbrev s_is_choice : Stmt := topS 6
abbrev N_is_choice : List Str := ["rule", "given"]
theorem sc_is_choice : FnScope N_is_choice ["rule", "given"] (defScope s_is_choice) := ⟨rfl, rfl, rfl, by decide +kernel, rfl, by decide +kernel, by decide +kernel⟩
abbrev s_BadChoice_init : Stmt := inClass (topS 3) 0
abbrev N_BadChoice_init : List Str := ["self", "rule", "given"]
theorem sc_BadChoice_init : FnScope N_BadChoice_init ["self", "rule", "given"] (defScope s_BadChoice_init) := ⟨rfl, rfl, rfl, by decide +kernel, rfl, by decide +kernel, by decide +kernel⟩
abbrev s_Maker_init : Stmt := inClass (topS 7) 1
abbrev N_Maker_init : List Str := ["self", "place", "key", "store", "stopped", "fits", "misfit", "compare", "unlike", "unready", "again", "choices", "rule", "given"]
theorem sc_Maker_init : FnScope N_Maker_init ["self", "place", "key", "store", "stopped", "fits", "misfit", "compare", "unlike", "unready", "again"] (defScope s_Maker_init) := ⟨rfl, rfl, rfl, by decide +kernel, rfl, by decide +kernel, by decide +kernel⟩
abbrev s_maker : Stmt := topS 17
abbrev N_maker : List Str := ["_law_rules_here", "_law_got", "_law_row"]
theorem sc_maker : FnScope N_maker ["_law_rules_here"] (defScope s_maker) := ⟨rfl, rfl, rfl, by decide +kernel, rfl, by decide +kernel, by decide +kernel⟩
abbrev s_word : Stmt := topS 12
abbrev N_word : List Str := ["_law_bag_here", "_law_letters", "_law_many", "_law_signs", "_law_k"]
theorem sc_word : FnScope N_word ["_law_bag_here"] (defScope s_word) := ⟨rfl, rfl, rfl, by decide +kernel, rfl, by decide +kernel, by decide +kernel⟩
abbrev s_spoilt : Stmt := topS 20
abbrev N_spoilt : List Str := ["_law_bag_here", "_law_signs", "_law_word_here", "_law_where"]
theorem sc_spoilt : FnScope N_spoilt ["_law_bag_here"] (defScope s_spoilt) := ⟨rfl, rfl, rfl, by decide +kernel, rfl, by decide +kernel, by decide +kernel⟩
abbrev s_short : Stmt := topS 13
abbrev N_short : List Str := ["_law_bag_here", "_law_letters", "_law_word_here"]
theorem sc_short : FnScope N_short ["_law_bag_here"] (defScope s_short) := ⟨rfl, rfl, rfl, by decide +kernel, rfl, by decide +kernel, by decide +kernel⟩
abbrev s_arguments : Stmt := topS 14
abbrev N_arguments : List Str := ["_law_bag_here", "_law_k"]
theorem sc_arguments : FnScope N_arguments ["_law_bag_here"] (defScope s_arguments) := ⟨rfl, rfl, rfl, by decide +kernel, rfl, by decide +kernel, by decide +kernel⟩
abbrev s_any : Stmt := topS 21
abbrev N_any : List Str := ["_law_bag_here", "_law_kind", "_law_k"]
theorem sc_any : FnScope N_any ["_law_bag_here"] (defScope s_any) := ⟨rfl, rfl, rfl, by decide +kernel, rfl, by decide +kernel, by decide +kernel⟩
abbrev s_odd : Stmt := topS 22
abbrev N_odd : List Str := ["_law_bag_here", "_law_row"]
theorem sc_odd : FnScope N_odd ["_law_bag_here"] (defScope s_odd) := ⟨rfl, rfl, rfl, by decide +kernel, rfl, by decide +kernel, by decide +kernel⟩
abbrev s_first_wrong : Stmt := topS 25
abbrev N_first_wrong : List Str := ["_law_rules_here", "_law_row", "_law_given"]
theorem sc_first_wrong : FnScope N_first_wrong ["_law_rules_here"] (defScope s_first_wrong) := ⟨rfl, rfl, rfl, by decide +kernel, rfl, by decide +kernel, by decide +kernel⟩
abbrev s_whole : Stmt := topS 18
abbrev N_whole : List Str := ["_law_one"]
theorem sc_whole : FnScope N_whole ["_law_one"] (defScope s_whole) := ⟨rfl, rfl, rfl, by decide +kernel, rfl, by decide +kernel, by decide +kernel⟩
abbrev s_like : Stmt := topS 19
abbrev N_like : List Str := ["_law_one", "_law_other", "_law_k"]
theorem sc_like : FnScope N_like ["_law_one", "_law_other"] (defScope s_like) := ⟨rfl, rfl, rfl, by decide +kernel, rfl, by decide +kernel, by decide +kernel⟩
abbrev s_NoRule_init : Stmt := inClass (topS 2) 0
abbrev N_NoRule_init : List Str := ["self", "rule"]
theorem sc_NoRule_init : FnScope N_NoRule_init ["self", "rule"] (defScope s_NoRule_init) := ⟨rfl, rfl, rfl, by decide +kernel, rfl, by decide +kernel, by decide +kernel⟩
abbrev s_Maker_choices : Stmt := inClass (topS 7) 2
abbrev N_Maker_choices : List Str := ["rule"]
theorem sc_Maker_choices : FnScope N_Maker_choices ["rule"] (defScope s_Maker_choices) := ⟨rfl, rfl, rfl, by decide +kernel, rfl, by decide +kernel, by decide +kernel⟩
abbrev s_Maker_written : Stmt := inClass (topS 7) 3
abbrev N_Maker_written : List Str := ["self"]
theorem sc_Maker_written : FnScope N_Maker_written ["self"] (defScope s_Maker_written) := ⟨rfl, rfl, rfl, by decide +kernel, rfl, by decide +kernel, by decide +kernel⟩
abbrev s_Maker_choice : Stmt := inClass (topS 7) 4
abbrev N_Maker_choice : List Str := ["self", "rule", "known", "given"]
theorem sc_Maker_choice : FnScope N_Maker_choice ["self", "rule"] (defScope s_Maker_choice) := ⟨rfl, rfl, rfl, by decide +kernel, rfl, by decide +kernel, by decide +kernel⟩
abbrev s_Maker_changed : Stmt := inClass (topS 7) 5
abbrev N_Maker_changed : List Str := ["self", "rules", "rule", "table", "known", "given"]
theorem sc_Maker_changed : FnScope N_Maker_changed ["self", "rules"] (defScope s_Maker_changed) := ⟨rfl, rfl, rfl, by decide +kernel, rfl, by decide +kernel, by decide +kernel⟩
abbrev s_unknown : Stmt := topS 24
abbrev N_unknown : List Str := ["_law_good", "_law_got", "e"]
theorem sc_unknown : FnScope N_unknown ["_law_good"] (defScope s_unknown) := ⟨rfl, rfl, rfl, by decide +kernel, rfl, by decide +kernel, by decide +kernel⟩
abbrev s_several : Stmt := topS 23
abbrev N_several : List Str := ["_law_bag_here", "_law_good", "_law_odd_here", "_law_rules_here", "_law_k", "_law_got", "_law_made", "e", "_law_row"]
theorem sc_several : FnScope N_several ["_law_bag_here", "_law_good"] (defScope s_several) := ⟨rfl, rfl, rfl, by decide +kernel, rfl, by decide +kernel, by decide +kernel⟩
abbrev s_law : Stmt := topS 26
abbrev N_law : List Str := ["_law_script", "_law_bag_here", "_law_rules_here", "_law_good", "_law_k", "_law_due", "_law_got", "e", "_law_thing", "_law_known", "_law_row"]
theorem sc_law : FnScope N_law ["_law_script"] (defScope s_law) := ⟨rfl, rfl, rfl, by decide +kernel, rfl, by decide +kernel, by decide +kernel⟩
theorem rel_Maker_init_1_place_key_store_stopped_fits_misfit_compare_unlike_unready_again {vs ds ms zs : List V} {us its mv ws : List Value} (r1 : Vals vs us) (r2 : Vals ds its) (r3 : Vals ms mv) (r4 : Vals zs ws) : Vals (g_Maker_init_1_place_key_store_stopped_fits_misfit_compare_unlike_unready_again vs ds ms zs) (g_Maker_init_1_place_key_store_stopped_fits_misfit_compare_unlike_unready_again us its mv ws) := by
  cases r1 with
  | nil => exact .nil
  | cons v0 r1 =>
   cases r1 with
   | cons _ _ => exact .nil
   | nil =>
    cases r2 with
    | cons _ _ => exact .nil
    | nil =>
     cases r3 with
     | cons _ _ => exact .nil
     | nil =>
      cases r4 with
      | nil => exact .nil
      | cons z0 r4 =>
       cases r4 with
       | nil => exact .nil
       | cons z1 r4 =>
        cases r4 with
        | nil => exact .nil
        | cons z2 r4 =>
         cases r4 with
         | nil => exact .nil
         | cons z3 r4 =>
          cases r4 with
          | nil => exact .nil
          | cons z4 r4 =>
           cases r4 with
           | nil => exact .nil
           | cons z5 r4 =>
            cases r4 with
            | nil => exact .nil
            | cons z6 r4 =>
             cases r4 with
             | nil => exact .nil
             | cons z7 r4 =>
              cases r4 with
              | nil => exact .nil
              | cons z8 r4 =>
               cases r4 with
               | nil => exact .nil
               | cons z9 r4 =>
                cases r4 with
                | cons _ _ => exact .nil
                | nil =>
                 exact (.cons v0 (.cons z0 (.cons z1 (.cons z2 (.cons z3 (.cons z4 (.cons z5 (.cons z6 (.cons z7 (.cons z8 (.cons z9 .nil)))))))))))
theorem relD_Maker_init_1_place_key_store_stopped_fits_misfit_compare_unlike_unready_again {g : G} {F : Hp} {ds : List D} {vs : List V} {es : List D} {zs : List V} (h1 : ds.length = 1) (h2 : es.length = 10) (r1 : RelDs g F ds vs) (r2 : RelDs g F es zs) : RelDs g F (g_Maker_init_1_place_key_store_stopped_fits_misfit_compare_unlike_unready_again ds [] [] es) (g_Maker_init_1_place_key_store_stopped_fits_misfit_compare_unlike_unready_again vs [] [] zs) ∧ (g_Maker_init_1_place_key_store_stopped_fits_misfit_compare_unlike_unready_again ds [] [] es).length = 11 := by
  cases ds with
  | nil => cases h1
  | cons qv0 ds =>
   obtain ⟨uv0, vs, rfl, v0, r1⟩ := r1.cons_inv
   cases ds with
   | cons _ _ => simp at h1
   | nil =>
    obtain rfl := r1.nil_inv
    cases es with
    | nil => cases h2
    | cons qz0 es =>
     obtain ⟨uz0, zs, rfl, z0, r2⟩ := r2.cons_inv
     cases es with
     | nil => cases h2
     | cons qz1 es =>
      obtain ⟨uz1, zs, rfl, z1, r2⟩ := r2.cons_inv
      cases es with
      | nil => cases h2
      | cons qz2 es =>
       obtain ⟨uz2, zs, rfl, z2, r2⟩ := r2.cons_inv
       cases es with
       | nil => cases h2
       | cons qz3 es =>
        obtain ⟨uz3, zs, rfl, z3, r2⟩ := r2.cons_inv
        cases es with
        | nil => cases h2
        | cons qz4 es =>
         obtain ⟨uz4, zs, rfl, z4, r2⟩ := r2.cons_inv
         cases es with
         | nil => cases h2
         | cons qz5 es =>
          obtain ⟨uz5, zs, rfl, z5, r2⟩ := r2.cons_inv
          cases es with
          | nil => cases h2
          | cons qz6 es =>
           obtain ⟨uz6, zs, rfl, z6, r2⟩ := r2.cons_inv
           cases es with
           | nil => cases h2
           | cons qz7 es =>
            obtain ⟨uz7, zs, rfl, z7, r2⟩ := r2.cons_inv
            cases es with
            | nil => cases h2
            | cons qz8 es =>
             obtain ⟨uz8, zs, rfl, z8, r2⟩ := r2.cons_inv
             cases es with
             | nil => cases h2
             | cons qz9 es =>
              obtain ⟨uz9, zs, rfl, z9, r2⟩ := r2.cons_inv
              cases es with
              | cons _ _ => simp at h2
              | nil =>
               obtain rfl := r2.nil_inv
               exact ⟨(.cons v0 (.cons z0 (.cons z1 (.cons z2 (.cons z3 (.cons z4 (.cons z5 (.cons z6 (.cons z7 (.cons z8 (.cons z9 .nil))))))))))), rfl⟩
structure Ad where
  d_bag : FuncData
  d_table : FuncData
  d_mixed : FuncData
  d_draw : FuncData
  d_rules : FuncData
  d_is_choice : FuncData
  d_BadChoice_init : FuncData
  d_Maker_init : FuncData
  h_Maker_init_1_place_key_store_stopped_fits_misfit_compare_unlike_unready_again : List Value → List Value → List Value
  d_maker : FuncData
  d_word : FuncData
  d_spoilt : FuncData
  d_short : FuncData
  d_arguments : FuncData
  d_any : FuncData
  d_odd : FuncData
  d_first_wrong : FuncData
  d_whole : FuncData
  d_like : FuncData
  d_NoRule_init : FuncData
  d_Maker_choices : FuncData
  d_Maker_written : FuncData
  d_Maker_choice : FuncData
  d_Maker_changed : FuncData
  d_unknown : FuncData
  d_several : FuncData
  d_law : FuncData
  cu_Maker_RULES : Value
  cx_Maker_RULES : V
structure Tx (g : G) (w : World) (mg : Str → Option Value) (ad : Ad) : Prop where
  F_bag : FunD g.K "_law_bag" "_law_bag" (defArgs s_bag) (defBody s_bag) (defScope s_bag) [] [] (He.ga g.K "_law_bag") ad.d_bag
  g_bag : mg "_law_bag" = some (.ref (He.ga g.K "_law_bag"))
  b_bag_1 : Binds g.K ad.d_bag ["_law_script"] []
  F_table : FunD g.K "_law_table" "_law_table" (defArgs s_table) (defBody s_table) (defScope s_table) [] [] (He.ga g.K "_law_table") ad.d_table
  g_table : mg "_law_table" = some (.ref (He.ga g.K "_law_table"))
  b_table_0 : Binds g.K ad.d_table [] []
  F_mixed : FunD g.K "_law_mixed" "_law_mixed" (defArgs s_mixed) (defBody s_mixed) (defScope s_mixed) [] [] (He.ga g.K "_law_mixed") ad.d_mixed
  g_mixed : mg "_law_mixed" = some (.ref (He.ga g.K "_law_mixed"))
  b_mixed_2 : Binds g.K ad.d_mixed ["_law_seed", "_law_count"] []
  F_draw : FunD g.K "_law_draw" "_law_draw" (defArgs s_draw) (defBody s_draw) (defScope s_draw) [] [] (He.ga g.K "_law_draw") ad.d_draw
  g_draw : mg "_law_draw" = some (.ref (He.ga g.K "_law_draw"))
  b_draw_2 : Binds g.K ad.d_draw ["_law_bag_here", "_law_limit"] []
  F_rules : FunD g.K "_law_rules" "_law_rules" (defArgs s_rules) (defBody s_rules) (defScope s_rules) [] [] (He.ga g.K "_law_rules") ad.d_rules
  g_rules : mg "_law_rules" = some (.ref (He.ga g.K "_law_rules"))
  b_rules_1 : Binds g.K ad.d_rules ["_law_bag_here"] []
  F_is_choice : FunD g.K "is_choice" "is_choice" (defArgs s_is_choice) (defBody s_is_choice) (defScope s_is_choice) [] [] (He.ga g.K "is_choice") ad.d_is_choice
  g_is_choice : mg "is_choice" = some (.ref (He.ga g.K "is_choice"))
  b_is_choice_2 : Binds g.K ad.d_is_choice ["rule", "given"] []
  F_BadChoice_init : FunD g.K "__init__" "BadChoice.__init__" (defArgs s_BadChoice_init) (defBody s_BadChoice_init) (defScope s_BadChoice_init) [] [] (He.ma g.K (He.ga g.K "BadChoice") "__init__") ad.d_BadChoice_init
  m_BadChoice_init : Meth g.K (g.cl "BadChoice") "__init__" (He.ma g.K (He.ga g.K "BadChoice") "__init__")
  b_BadChoice_init_3 : Binds g.K ad.d_BadChoice_init ["self", "rule", "given"] []
  F_Maker_init : FunD g.K "__init__" "Maker.__init__" (defArgs s_Maker_init) (defBody s_Maker_init) (defScope s_Maker_init) [] [("place", .str "here"), ("key", .str "none"), ("store", .str "ahead"), ("stopped", .str "leave"), ("fits", .str "any"), ("misfit", .str "anew"), ("compare", .str "never"), ("unlike", .str "anew"), ("unready", .str "give"), ("again", .str "yes")] (He.ma g.K (He.ga g.K "Maker") "__init__") ad.d_Maker_init
  m_Maker_init : Meth g.K (g.cl "Maker") "__init__" (He.ma g.K (He.ga g.K "Maker") "__init__")
  kb_Maker_init_1_place_key_store_stopped_fits_misfit_compare_unlike_unready_again : KBn g.K ad.d_Maker_init ["self", "place", "key", "store", "stopped", "fits", "misfit", "compare", "unlike", "unready", "again"] 1 ["place", "key", "store", "stopped", "fits", "misfit", "compare", "unlike", "unready", "again"] ad.h_Maker_init_1_place_key_store_stopped_fits_misfit_compare_unlike_unready_again (fun vs zs => g_Maker_init_1_place_key_store_stopped_fits_misfit_compare_unlike_unready_again vs [] [] zs)
  F_maker : FunD g.K "_law_maker" "_law_maker" (defArgs s_maker) (defBody s_maker) (defScope s_maker) [] [] (He.ga g.K "_law_maker") ad.d_maker
  g_maker : mg "_law_maker" = some (.ref (He.ga g.K "_law_maker"))
  b_maker_1 : Binds g.K ad.d_maker ["_law_rules_here"] []
  F_word : FunD g.K "_law_word" "_law_word" (defArgs s_word) (defBody s_word) (defScope s_word) [] [] (He.ga g.K "_law_word") ad.d_word
  g_word : mg "_law_word" = some (.ref (He.ga g.K "_law_word"))
  b_word_1 : Binds g.K ad.d_word ["_law_bag_here"] []
  F_spoilt : FunD g.K "_law_spoilt" "_law_spoilt" (defArgs s_spoilt) (defBody s_spoilt) (defScope s_spoilt) [] [] (He.ga g.K "_law_spoilt") ad.d_spoilt
  g_spoilt : mg "_law_spoilt" = some (.ref (He.ga g.K "_law_spoilt"))
  b_spoilt_1 : Binds g.K ad.d_spoilt ["_law_bag_here"] []
  F_short : FunD g.K "_law_short" "_law_short" (defArgs s_short) (defBody s_short) (defScope s_short) [] [] (He.ga g.K "_law_short") ad.d_short
  g_short : mg "_law_short" = some (.ref (He.ga g.K "_law_short"))
  b_short_1 : Binds g.K ad.d_short ["_law_bag_here"] []
  F_arguments : FunD g.K "_law_arguments" "_law_arguments" (defArgs s_arguments) (defBody s_arguments) (defScope s_arguments) [] [] (He.ga g.K "_law_arguments") ad.d_arguments
  g_arguments : mg "_law_arguments" = some (.ref (He.ga g.K "_law_arguments"))
  b_arguments_1 : Binds g.K ad.d_arguments ["_law_bag_here"] []
  F_any : FunD g.K "_law_any" "_law_any" (defArgs s_any) (defBody s_any) (defScope s_any) [] [] (He.ga g.K "_law_any") ad.d_any
  g_any : mg "_law_any" = some (.ref (He.ga g.K "_law_any"))
  b_any_1 : Binds g.K ad.d_any ["_law_bag_here"] []
  F_odd : FunD g.K "_law_odd" "_law_odd" (defArgs s_odd) (defBody s_odd) (defScope s_odd) [] [] (He.ga g.K "_law_odd") ad.d_odd
  g_odd : mg "_law_odd" = some (.ref (He.ga g.K "_law_odd"))
  b_odd_1 : Binds g.K ad.d_odd ["_law_bag_here"] []
  F_first_wrong : FunD g.K "_law_first_wrong" "_law_first_wrong" (defArgs s_first_wrong) (defBody s_first_wrong) (defScope s_first_wrong) [] [] (He.ga g.K "_law_first_wrong") ad.d_first_wrong
  g_first_wrong : mg "_law_first_wrong" = some (.ref (He.ga g.K "_law_first_wrong"))
  b_first_wrong_1 : Binds g.K ad.d_first_wrong ["_law_rules_here"] []
  F_whole : FunD g.K "_law_whole" "_law_whole" (defArgs s_whole) (defBody s_whole) (defScope s_whole) [] [] (He.ga g.K "_law_whole") ad.d_whole
  g_whole : mg "_law_whole" = some (.ref (He.ga g.K "_law_whole"))
  b_whole_1 : Binds g.K ad.d_whole ["_law_one"] []
  F_like : FunD g.K "_law_like" "_law_like" (defArgs s_like) (defBody s_like) (defScope s_like) [] [] (He.ga g.K "_law_like") ad.d_like
  g_like : mg "_law_like" = some (.ref (He.ga g.K "_law_like"))
  b_like_2 : Binds g.K ad.d_like ["_law_one", "_law_other"] []
  F_NoRule_init : FunD g.K "__init__" "NoRule.__init__" (defArgs s_NoRule_init) (defBody s_NoRule_init) (defScope s_NoRule_init) [] [] (He.ma g.K (He.ga g.K "NoRule") "__init__") ad.d_NoRule_init
  m_NoRule_init : Meth g.K (g.cl "NoRule") "__init__" (He.ma g.K (He.ga g.K "NoRule") "__init__")
  b_NoRule_init_2 : Binds g.K ad.d_NoRule_init ["self", "rule"] []
  F_Maker_choices : FunD g.K "choices" "Maker.choices" (defArgs s_Maker_choices) (defBody s_Maker_choices) (defScope s_Maker_choices) [] [] (smAd g.K "Maker" "choices") ad.d_Maker_choices
  sm_Maker_choices : CSta g.K (g.cl "Maker") (.type "type") "choices" (He.ma g.K (He.ga g.K "Maker") "choices") (smAd g.K "Maker" "choices")
  b_Maker_choices_1 : Binds g.K ad.d_Maker_choices ["rule"] []
  F_Maker_written : FunD g.K "written" "Maker.written" (defArgs s_Maker_written) (defBody s_Maker_written) (defScope s_Maker_written) [] [] (He.ma g.K (He.ga g.K "Maker") "written") ad.d_Maker_written
  m_Maker_written : Meth g.K (g.cl "Maker") "written" (He.ma g.K (He.ga g.K "Maker") "written")
  b_Maker_written_1 : Binds g.K ad.d_Maker_written ["self"] []
  F_Maker_choice : FunD g.K "choice" "Maker.choice" (defArgs s_Maker_choice) (defBody s_Maker_choice) (defScope s_Maker_choice) [] [] (He.ma g.K (He.ga g.K "Maker") "choice") ad.d_Maker_choice
  m_Maker_choice : Meth g.K (g.cl "Maker") "choice" (He.ma g.K (He.ga g.K "Maker") "choice")
  b_Maker_choice_2 : Binds g.K ad.d_Maker_choice ["self", "rule"] []
  F_Maker_changed : FunD g.K "changed" "Maker.changed" (defArgs s_Maker_changed) (defBody s_Maker_changed) (defScope s_Maker_changed) [] [] (He.ma g.K (He.ga g.K "Maker") "changed") ad.d_Maker_changed
  m_Maker_changed : Meth g.K (g.cl "Maker") "changed" (He.ma g.K (He.ga g.K "Maker") "changed")
  F_unknown : FunD g.K "_law_unknown" "_law_unknown" (defArgs s_unknown) (defBody s_unknown) (defScope s_unknown) [] [] (He.ga g.K "_law_unknown") ad.d_unknown
  g_unknown : mg "_law_unknown" = some (.ref (He.ga g.K "_law_unknown"))
  b_unknown_1 : Binds g.K ad.d_unknown ["_law_good"] []
  F_several : FunD g.K "_law_several" "_law_several" (defArgs s_several) (defBody s_several) (defScope s_several) [] [] (He.ga g.K "_law_several") ad.d_several
  g_several : mg "_law_several" = some (.ref (He.ga g.K "_law_several"))
  b_several_2 : Binds g.K ad.d_several ["_law_bag_here", "_law_good"] []
  F_law : FunD g.K "law" "law" (defArgs s_law) (defBody s_law) (defScope s_law) [] [] (He.ga g.K "law") ad.d_law
  g_law : mg "law" = some (.ref (He.ga g.K "law"))
  cl_Maker : Cls g.K (g.cl "Maker")
  g_Maker : mg "Maker" = some (.ref (g.cl "Maker"))
  n_Maker_place : NoAttr g.K (g.cl "Maker") "place"
  n_Maker_key : NoAttr g.K (g.cl "Maker") "key"
  n_Maker_store : NoAttr g.K (g.cl "Maker") "store"
  n_Maker_stopped : NoAttr g.K (g.cl "Maker") "stopped"
  n_Maker_fits : NoAttr g.K (g.cl "Maker") "fits"
  n_Maker_misfit : NoAttr g.K (g.cl "Maker") "misfit"
  n_Maker_compare : NoAttr g.K (g.cl "Maker") "compare"
  n_Maker_unlike : NoAttr g.K (g.cl "Maker") "unlike"
  n_Maker_unready : NoAttr g.K (g.cl "Maker") "unready"
  n_Maker_again : NoAttr g.K (g.cl "Maker") "again"
  mk_Maker : Mk g.K (g.cl "Maker") (He.ma g.K (He.ga g.K "Maker") "__init__")
  cr_Maker : ClX.CRead g.K (g.cl "Maker") (.type "type")
  ox_BadChoice : OexC g.K (g.cl "BadChoice")
  xi_BadChoice : PySem.W.findIn g.K (.ref (g.cl "BadChoice")) "__init__" = some (some (.ref (He.ma g.K (He.ga g.K "BadChoice") "__init__")))
  xt_BadChoice : PySem.W.typeIn g.K (.ref (He.ma g.K (He.ga g.K "BadChoice") "__init__")) = some (.type "function")
  xf_BadChoice : XfC g.K (g.cl "BadChoice")
  n_BadChoice_rule : NoAttr g.K (g.cl "BadChoice") "rule"
  n_BadChoice_given : NoAttr g.K (g.cl "BadChoice") "given"
  ox_NoRule : OexC g.K (g.cl "NoRule")
  xi_NoRule : PySem.W.findIn g.K (.ref (g.cl "NoRule")) "__init__" = some (some (.ref (He.ma g.K (He.ga g.K "NoRule") "__init__")))
  xt_NoRule : PySem.W.typeIn g.K (.ref (He.ma g.K (He.ga g.K "NoRule") "__init__")) = some (.type "function")
  xf_NoRule : XfC g.K (g.cl "NoRule")
  n_NoRule_rule : NoAttr g.K (g.cl "NoRule") "rule"
  g_BadChoice : mg "BadChoice" = some (.ref (g.cl "BadChoice"))
  g_NoRule : mg "NoRule" = some (.ref (g.cl "NoRule"))
  g_OneError : mg "OneError" = some (.ref (g.cl "OneError"))
  cr_OneError : ClX.CRead g.K (g.cl "OneError") (.type "type")
  vi_OneError : PySem.W.findCls g.K (.ref (g.cl "OneError")) (.type "type") "__init__" = some (.val (.builtin "ValueError.__init__"))
  exs : ∀ c1 c2 b, subT2 exT c1 c2 = some b → PySem.W.exmOne g.K (.ref (g.cl c1)) (.ref (g.cl c2)) = some b
  own : OwnTy g ownC
  c_CHOICES : mg "CHOICES" = some (.ref (g.cs "CHOICES"))
  t_CHOICES : TabOk g w "CHOICES" DL.t_CHOICES
  tk_CHOICES : tabK g.K (g.cs "CHOICES") DL.t_CHOICES = true
  cv_Maker_RULES : ClX.CVal g.K (g.cl "Maker") (.type "type") "RULES" ad.cx_Maker_RULES ad.cu_Maker_RULES
  cw_Maker_RULES : ∀ F, RelD g F cc_Maker_RULES ad.cx_Maker_RULES
  z_bool : mg "bool" = none
  z_dict : mg "dict" = none
  z_int : mg "int" = none
  z_isinstance : mg "isinstance" = none
  z_len : mg "len" = none
  z_list : mg "list" = none
  z_range : mg "range" = none
  z_str : mg "str" = none
  z_tuple : mg "tuple" = none
  z_zip : mg "zip" = none
end DL
namespace DL
open PySem L2
section
variable {P : Program} {w : World} {mg : Str → Option Value} {base : Heap} {ad : Ad} {g : G}
def sp_bag (K : PySem.W.Frag) : Sp := fun vs H Q _ => ∃ (a : Addr) (ns : List Int), vs = [.ref a] ∧ SqL K H a (ns.map V.int) ∧ ∀ (c b : Addr) (sd : Int), H c = none → b ≠ c → H b = none → Q (.ref b) (upd (upd H c (.lst (ns.map V.int))) b (.lst [.ref c, .int sd, .int 0, .int 0, .int 0, .int 0]))
theorem ok_bag0 (T : Tx g w mg ad) : FnOk P w g.K mg base CX0 1 (He.ga g.K "_law_bag") ad.d_bag ["_law_script"] (sp_bag g.K) := by
  refine okD0 T.F_bag sc_bag (fun vs H Q E h => ?_) (fun cdv A outer s H vs Q E hr h => ?_)
  · obtain ⟨a, ns, rfl, _⟩ := h; rfl
  · obtain ⟨a, ns, rfl, hS, k⟩ := h
    refine ⟨_, (pss_cons (ps_set (i := 1) sc_bag.nd rfl (Or.inl rfl) pe_int) (pss_cons (ps_for PassesOwn.never rfl (pi_list (pv 0)) (pg_name (i := 2) sc_bag.nd rfl (Or.inl rfl)) (pss_one (ps_set (i := 1) sc_bag.nd rfl (Or.inl rfl) (pe_op op_mod (pe_callTy call_int1 (by rfl) T.z_int (by decide +kernel) (pa_cons (pe_op op_add (pe_op op_mul (pv 1) pe_int) (pv 2)) pa_nil)) pe_int)))) (pss_one (ps_ret (pe_lst (pa_cons (pe_callTy call_list_of (by rfl) T.z_list (by decide +kernel) (pa_cons (pv 0) pa_nil)) (pa_cons (pv 1) (pa_cons pe_int (pa_cons pe_int (pa_cons pe_int (pa_cons pe_int pa_nil))))))))))), ?_⟩
    refine ⟨_, rfl, a, rfl, ⟨_, hS⟩, for_list (K := g.K) (a := a) (xs := ns.map V.int) (fun i σ H' => H' = H ∧ ∃ (sd : Int) (c : Option V), σ = [some (.ref a), some (.int sd), c]) ⟨rfl, 7, none, rfl⟩ (fun i σ H' _ h => by rw [h.1]; exact hS) ?_ ?_⟩
    · rintro i x σ H' hi ⟨rfl, sd, c, rfl⟩
      obtain ⟨n, _, rfl⟩ := List.mem_map.mp (List.mem_of_getElem? hi)
      refine ⟨_, rfl, _, _, rfl, rfl, .inr ⟨by decide, by decide⟩, _, rfl, _, _, rfl, rfl, .inl ⟨_, rfl, _, _, rfl, rfl, (show (0 : Int) < 2147483647 by decide), ?_⟩⟩
      exact ⟨rfl, _, _, rfl⟩
    · rintro σ H' ⟨rfl, sd, c, rfl⟩
      refine ⟨_, rfl, a, _, rfl, .inl hS, fun c nc => ⟨_, rfl, (by show 6 ≤ sizeLine; decide), fun b nb => ?_⟩⟩
      obtain ⟨e, nb⟩ := DL.upd_none nb
      exact k c b sd nc e nb
theorem ok_bag [Kd] (T : Tx g w mg ad) : FnOk P w g.K mg base (XCX P w) 1 (He.ga g.K "_law_bag") ad.d_bag ["_law_script"] (spD g 1 bagF) := by
  refine FnOk.imp (FnOk.up (ok_bag0 T)) fun vs H Q E h => ?_
  obtain ⟨Z, F, st, ds, hl, sim, r, rfl, q⟩ := h
  obtain ⟨v1, r1, rfl, rv1, r⟩ := r.cons_inv
  rw [r.nil_inv]
  unfold RelD at rv1
  obtain ⟨a, ns, rfl, hS⟩ := rv1
  refine ⟨a, ns, rfl, sim.same.seq hS, fun c b sd nc e nb => ?_⟩
  obtain ⟨nFc, nSc⟩ := sim.free nc
  obtain ⟨nFb, nSb⟩ := sim.free nb
  have s1 : Sim g Z (st.set c .raw) F (upd H c (.lst (ns.map V.int))) := sim.put nFc (.inl nc) ⟨ns, upd_same⟩
  have s2 : Sim g Z ((st.set c .raw).set b (.bag c)) F (upd (upd H c (.lst (ns.map V.int))) b (.lst [.ref c, .int sd, .int 0, .int 0, .int 0, .int 0])) :=
    s1.put nFb (.inl (DL.none_upd e nb)) ⟨by rw [S.set_ne (Ne.symm e), S.set_same], sd, 0, 0, 0, 0, upd_same, by decide⟩
  exact q b c e nSb nSc _ F _ (Same.refl _) s2 relD_ref

theorem cal_bag_1 [Kd] (T : Tx g w mg ad) : Cal g P w g.K mg base 1 (He.ga g.K "_law_bag") [] f_bag_1 :=
  cal_pos (ok_bag T) T.b_bag_1 .nil (fun _ => .nil) rfl
end
end DL
namespace DL
open PySem L2
section
variable {P : Program} {w : World} {mg : Str → Option Value} {base : Heap} {ad : Ad} {g : G}
theorem ok_table [Kd] (T : Tx g w mg ad) : FnOk P w g.K mg base (XCX P w) 1 (He.ga g.K "_law_table") ad.d_table [] (spD g 0 d_table) :=
  fn_okD T.F_table sc_table rfl fun cdv A outer s H E hr tk => (fb_one (fs_ret (fe_lst (fa_cons (fe_tup (fa_cons fe_str (fa_cons (fe_tup (fa_cons fe_str (fa_cons fe_str (fa_cons fe_str (fa_cons fe_str fa_nil))))) fa_nil))) (fa_cons (fe_tup (fa_cons fe_str (fa_cons (fe_tup (fa_cons fe_str (fa_cons fe_str (fa_cons fe_str (fa_cons fe_str fa_nil))))) fa_nil))) (fa_cons (fe_tup (fa_cons fe_str (fa_cons (fe_tup (fa_cons fe_str (fa_cons fe_str (fa_cons fe_str fa_nil)))) fa_nil))) (fa_cons (fe_tup (fa_cons fe_str (fa_cons (fe_tup (fa_cons fe_str (fa_cons fe_str fa_nil))) fa_nil))) (fa_cons (fe_tup (fa_cons fe_str (fa_cons (fe_tup (fa_cons fe_str (fa_cons fe_str (fa_cons fe_str fa_nil)))) fa_nil))) (fa_cons (fe_tup (fa_cons fe_str (fa_cons (fe_tup (fa_cons fe_str (fa_cons fe_str fa_nil))) fa_nil))) (fa_cons (fe_tup (fa_cons fe_str (fa_cons (fe_tup (fa_cons fe_str (fa_cons fe_str (fa_cons fe_str fa_nil)))) fa_nil))) (fa_cons (fe_tup (fa_cons fe_str (fa_cons (fe_tup (fa_cons fe_str (fa_cons fe_str fa_nil))) fa_nil))) (fa_cons (fe_tup (fa_cons fe_str (fa_cons (fe_tup (fa_cons fe_str (fa_cons fe_str (fa_cons fe_str fa_nil)))) fa_nil))) (fa_cons (fe_tup (fa_cons fe_str (fa_cons (fe_tup (fa_cons fe_str (fa_cons fe_str fa_nil))) fa_nil))) fa_nil)))))))))))))
theorem cal_table_0 [Kd] (T : Tx g w mg ad) : Cal g P w g.K mg base 1 (He.ga g.K "_law_table") [] f_table_0 :=
  cal_pos (ok_table T) T.b_table_0 .nil (fun _ => .nil) rfl
end
end DL
namespace DL
open PySem L2
section
variable {P : Program} {w : World} {mg : Str → Option Value} {base : Heap} {ad : Ad} {g : G}
def sp_mixed : Sp := fun vs H Q _ => ∃ s n : Int, vs = [.int s, .int n] ∧ ∀ v, Q (.int v) H
theorem ok_mixed (T : Tx g w mg ad) : FnOk P w g.K mg base CX0 1 (He.ga g.K "_law_mixed") ad.d_mixed ["_law_seed", "_law_count"] sp_mixed := by
  refine okD0 T.F_mixed sc_mixed (fun vs H Q E h => ?_) (fun cdv A outer s H vs Q E hr h => ?_)
  · obtain ⟨s, n, rfl, _⟩ := h; rfl
  · obtain ⟨sd, n, rfl, k⟩ := h
    refine ⟨_, (pss_cons (ps_set (i := 2) sc_mixed.nd rfl (Or.inl rfl) (pe_op op_mod (pe_callTy call_int1 (by rfl) T.z_int (by decide +kernel) (pa_cons (pe_op op_add (pe_op op_add (pe_op op_mul (pv 0) pe_int) (pe_op op_mul (pv 1) pe_int)) pe_int) pa_nil)) pe_int)) (pss_cons (ps_set (i := 3) sc_mixed.nd rfl (Or.inl rfl) (pe_op op_mod (pe_callTy call_int1 (by rfl) T.z_int (by decide +kernel) (pa_cons (pe_op op_add (pe_op op_mul (pv 2) (pv 2)) (pe_op op_mul (pv 1) pe_int)) pa_nil)) pe_int)) (pss_one (ps_ret (pe_op op_fdivW (pv 3) pe_int))))), ?_⟩
    refine ⟨_, rfl, _, _, rfl, rfl, .inr ⟨by decide, by decide⟩, _, rfl, _, _, rfl, rfl, .inr ⟨by decide, by decide⟩, _, _, rfl, rfl, _, _, rfl, rfl, .inl ⟨_, rfl, _, _, rfl, rfl, (show (0 : Int) < 2147483647 by decide), ?_⟩⟩
    have b := emod_lim (x := sd * 48271 + n * 69621 + 11) (l := 2147483647) (by decide)
    generalize (sd * 48271 + n * 69621 + 11) % 2147483647 = o at b
    refine ⟨_, rfl, _, rfl, _, _, rfl, rfl, .inl ⟨by omega, by omega⟩, _, rfl, _, _, rfl, rfl, .inr ⟨by decide, by decide⟩, _, _, rfl, rfl, .inl ⟨_, rfl, _, _, rfl, rfl, (show (0 : Int) < 2147483563 by decide), ?_⟩⟩
    refine ⟨_, rfl, _, _, rfl, rfl, wide_div (b := 2) (by decide) (by decide) (by decide) (by decide), ?_⟩
    exact k _

end
end DL
namespace DL
open PySem L2
section
variable {P : Program} {w : World} {mg : Str → Option Value} {base : Heap} {ad : Ad} {g : G}
def bagL (c : Addr) (sd cn ps lf bg : Int) : List V := [.ref c, .int sd, .int cn, .int ps, .int lf, .int bg]
structure Bg (b c : Addr) (ns : List Int) (H0 H : Hp) (sd cn ps lf bg : Int) : Prop where
  same : Same H0 H
  nb : H0 b = none
  nc : H0 c = none
  hc : H c = some (.lst (ns.map V.int))
  hb : H b = some (.lst (bagL c sd cn ps lf bg))
theorem Bg.ne {b c : Addr} {ns : List Int} {H0 H : Hp} {sd cn ps lf bg : Int} (w : Bg b c ns H0 H sd cn ps lf bg) : c ≠ b := by
  refine ne_of w.hc w.hb fun e => ?_
  injection e with e
  cases ns with
  | nil => cases e
  | cons n ns => injection e with e1 _; cases e1
theorem Bg.put {b c : Addr} {ns : List Int} {H0 H : Hp} {sd cn ps lf bg : Int} (w : Bg b c ns H0 H sd cn ps lf bg) (sd' cn' ps' lf' bg' : Int) :
    Bg b c ns H0 (upd H b (.lst (bagL c sd' cn' ps' lf' bg'))) sd' cn' ps' lf' bg' :=
  ⟨fun q u h => by rw [upd_ne (ne_of_none h w.nb)]; exact w.same _ _ h, w.nb, w.nc, by rw [upd_ne w.ne]; exact w.hc, upd_same⟩
def sp_draw : Sp := fun vs H Q _ => ∃ (b c : Addr) (H0 : Hp) (l : Int), vs = [.ref b, .int l] ∧ (∃ ns sd cn ps lf bg, Bg b c ns H0 H sd cn ps lf bg ∧ 0 ≤ ps) ∧ 0 < l ∧ l < 2 ^ 200 ∧ ∀ (v : Int) (H' : Hp), (∃ ns sd cn ps lf bg, Bg b c ns H0 H' sd cn ps lf bg ∧ 0 ≤ ps) → 0 ≤ v → v < l → Q (.int v) H'
theorem ok_draw0 (T : Tx g w mg ad) : FnOk P w g.K mg base CX0 2 (He.ga g.K "_law_draw") ad.d_draw ["_law_bag_here", "_law_limit"] sp_draw := by
  refine okD0 T.F_draw sc_draw (fun vs H Q E h => ?_) (fun cdv A outer s H vs Q E hr h => ?_)
  · obtain ⟨b, c, H0, l, rfl, _⟩ := h; rfl
  · obtain ⟨b, c, H0, l, rfl, ⟨ns, sd, cn, ps, lf, bg, w, p0⟩, l0, l1, k⟩ := h
    have ld : ∀ {g : Int}, CDivW g l := wide_div (b := 200) l0 (by omega) (by decide) (by decide)
    refine ⟨_, (pss_cons (ps_asg (pe_op op_add (pe_ix ix_list (pv 0) pe_int (fun _ _ => rfl)) pe_int) (pg_sub (pv 0) pe_int set_list)) (C8.pss_cut (ps_if (PW.pt (pw_and (pt_cmpR op_eq (pe_ix ix_list (pv 0) pe_int (fun _ _ => rfl)) pe_int (nomark _)) (pw_and1 (pt_cmpR op_lt (pe_ix ix_list (pv 0) pe_int (fun _ _ => rfl)) (pe_callB call_len_seq (by rfl) T.z_len PySem.boot_len (pa_cons (pe_ix ix_list (pv 0) pe_int (fun _ _ => rfl)) pa_nil)) (nomark _))))) (pss_cons (ps_set (i := 2) sc_draw.nd rfl (Or.inl rfl) (pe_ix ix_list (pe_ix ix_list (pv 0) pe_int (fun _ _ => rfl)) (pe_ix ix_list (pv 0) pe_int (fun _ _ => rfl)) (fun _ _ => rfl))) (pss_cons (ps_asg (pe_op op_add (pe_ix ix_list (pv 0) pe_int (fun _ _ => rfl)) pe_int) (pg_sub (pv 0) pe_int set_list)) (pss_cons (ps_if (pt_cmpR op_lt (pv 2) (pe_op op_pow pe_int pe_int) (nomark _)) (pss_one (ps_ret (pe_op op_mod (pe_callTy call_int1 (by rfl) T.z_int (by decide +kernel) (pa_cons (pe_call (ok_mixed T) (hr.mono (by decide)) (by rfl) T.g_mixed T.F_mixed.kp T.b_mixed_2 .nil pass0 (pa_cons (pe_op op_mod (pe_callTy call_int1 (by rfl) T.z_int (by decide +kernel) (pa_cons (pv 2) pa_nil)) pe_int) (pa_cons (pe_ix ix_list (pv 0) pe_int (fun _ _ => rfl)) pa_nil))) pa_nil)) (pv 1)))) pss_nil) (pss_cons (ps_asg pe_int (pg_sub (pv 0) pe_int set_list)) (pss_one (ps_asg (pe_op op_sub (pv 2) (pe_op op_pow pe_int pe_int)) (pg_sub (pv 0) pe_int set_list))))))) pss_nil) (pss_cons (ps_if (pt_cmpR op_gt (pe_ix ix_list (pv 0) pe_int (fun _ _ => rfl)) pe_int (nomark _)) (pss_cons (ps_asg (pe_op op_sub (pe_ix ix_list (pv 0) pe_int (fun _ _ => rfl)) pe_int) (pg_sub (pv 0) pe_int set_list)) (pss_cons (ps_set (i := 3) sc_draw.nd rfl (Or.inl rfl) (pe_op op_mod (pe_callTy call_int1 (by rfl) T.z_int (by decide +kernel) (pa_cons (pe_ix ix_list (pv 0) pe_int (fun _ _ => rfl)) pa_nil)) (pv 1))) (pss_cons (ps_asg (pe_op op_fdivW (pe_ix ix_list (pv 0) pe_int (fun _ _ => rfl)) (pv 1)) (pg_sub (pv 0) pe_int set_list)) (pss_one (ps_ret (pv 3)))))) pss_nil) (pss_one (ps_ret (pe_op op_mod (pe_callTy call_int1 (by rfl) T.z_int (by decide +kernel) (pa_cons (pe_call (ok_mixed T) (hr.mono (by decide)) (by rfl) T.g_mixed T.F_mixed.kp T.b_mixed_2 .nil pass0 (pa_cons (pe_ix ix_list (pv 0) pe_int (fun _ _ => rfl)) (pa_cons (pe_ix ix_list (pv 0) pe_int (fun _ _ => rfl)) pa_nil))) pa_nil)) (pv 1))))))), ?_⟩
    refine ⟨_, rfl, b, _, 2, _, rfl, rfl, SqL.of w.hb, rfl, _, _, rfl, rfl, _, rfl, b, _, 2, 2, rfl, rfl, w.hb, rfl, ?_⟩
    have w1 := w.put sd (cn + 1) ps lf bg
    refine ⟨fun σ H1 => ∃ (cl : Option V) (ps lf bg : Int), σ = [some (.ref b), some (.int l), cl, none] ∧ Bg b c ns H0 H1 sd (cn + 1) ps lf bg ∧ 0 ≤ ps, ?_, ?_⟩
    · refine ⟨_, rfl, b, _, 4, _, rfl, rfl, SqL.of w1.hb, rfl, rfl, _, rfl, ?_⟩
      refine ite2 (fun h4 => ?_) (fun h4 => ?_)
      · refine ⟨_, rfl, b, _, 3, _, rfl, rfl, SqL.of w1.hb, rfl, _, rfl, b, _, 0, _, rfl, rfl, SqL.of w1.hb, rfl, c, _, rfl, .inl (SqL.of w1.hc), _, _, rfl, rfl, _, rfl, ?_⟩
        refine ite2 (fun h3 => ?_) (fun h3 => ⟨_, ps, lf, bg, rfl, w1, p0⟩)
        have h3 := of_decide_eq_true h3
        obtain ⟨v, hv, vm⟩ := atI_pos (xs := ns.map V.int) p0 h3
        obtain ⟨n, _, rfl⟩ := List.mem_map.mp vm
        refine ⟨_, rfl, b, _, 0, _, rfl, rfl, SqL.of w1.hb, rfl, _, rfl, b, _, 3, _, rfl, rfl, SqL.of w1.hb, rfl, c, _, _, _, rfl, rfl, SqL.of w1.hc, hv, ?_⟩
        refine ⟨_, rfl, b, _, 3, _, rfl, rfl, SqL.of w1.hb, rfl, _, _, rfl, rfl, _, rfl, b, _, 3, 3, rfl, rfl, w1.hb, rfl, ?_⟩
        have w2 := w1.put sd (cn + 1) (ps + 1) lf bg
        refine ⟨_, rfl, _, _, rfl, rfl, ⟨by decide, by decide, by decide⟩, _, _, rfl, rfl, _, rfl, ?_⟩
        refine ite2 (fun _ => ?_) (fun _ => ?_)
        · refine ⟨_, rfl, .inl ⟨_, rfl, _, _, rfl, rfl, (show (0 : Int) < 2147483647 by decide), _, rfl, b, _, 2, _, rfl, rfl, SqL.of w2.hb, rfl, _, _, rfl, fun v => .inl ⟨_, rfl, _, rfl, _, _, rfl, rfl, l0, ?_⟩⟩⟩
          exact k _ _ ⟨_, _, _, _, _, _, w2, (by omega)⟩ (emod_lim l0).1 (emod_lim l0).2
        · refine ⟨_, rfl, b, _, 4, 4, rfl, rfl, w2.hb, rfl, ?_⟩
          have w3 := w2.put sd (cn + 1) (ps + 1) 40 bg
          refine ⟨_, rfl, _, _, rfl, rfl, ⟨by decide, by decide, by decide⟩, _, _, rfl, rfl, _, rfl, b, _, 5, 5, rfl, rfl, w3.hb, rfl, ?_⟩
          exact ⟨_, ps + 1, 40, _, rfl, w3.put sd (cn + 1) (ps + 1) 40 _, by omega⟩
      · exact iteF ⟨_, ps, lf, bg, rfl, w1, p0⟩
    · rintro σ H1 ⟨cl, ps, lf, bg, rfl, w, p0⟩
      refine ⟨_, rfl, b, _, 4, _, rfl, rfl, SqL.of w.hb, rfl, _, _, rfl, rfl, _, rfl, ?_⟩
      refine ite2 (fun _ => ?_) (fun _ => ?_)
      · refine ⟨_, rfl, b, _, 4, _, rfl, rfl, SqL.of w.hb, rfl, _, _, rfl, rfl, _, rfl, b, _, 4, 4, rfl, rfl, w.hb, rfl, ?_⟩
        have w1 := w.put sd (cn + 1) ps (lf - 1) bg
        refine ⟨_, rfl, b, _, 5, _, rfl, rfl, SqL.of w1.hb, rfl, .inl ⟨_, rfl, _, rfl, _, _, rfl, rfl, l0, ?_⟩⟩
        refine ⟨_, rfl, b, _, 5, _, rfl, rfl, SqL.of w1.hb, rfl, _, rfl, _, _, rfl, rfl, ld, _, rfl, b, _, 5, 5, rfl, rfl, w1.hb, rfl, ?_⟩
        exact ⟨_, rfl, k _ _ ⟨_, _, _, _, _, _, w1.put sd (cn + 1) ps (lf - 1) (bg / l), p0⟩ (emod_lim l0).1 (emod_lim l0).2⟩
      · refine ⟨_, rfl, b, _, 1, _, rfl, rfl, SqL.of w.hb, rfl, _, rfl, b, _, 2, _, rfl, rfl, SqL.of w.hb, rfl, _, _, rfl, fun v => .inl ⟨_, rfl, _, rfl, _, _, rfl, rfl, l0, ?_⟩⟩
        exact k _ _ ⟨_, _, _, _, _, _, w, p0⟩ (emod_lim l0).1 (emod_lim l0).2
theorem ok_draw [Kd] (T : Tx g w mg ad) : FnOk P w g.K mg base (XCX P w) 2 (He.ga g.K "_law_draw") ad.d_draw ["_law_bag_here", "_law_limit"] (spD g 2 drawF) := by
  refine FnOk.imp (FnOk.up (ok_draw0 T)) fun vs H Q E h => ?_
  obtain ⟨Z, F, st, ds, hl, sim, r, b, c, l, rfl, hb, l0, l1, q⟩ := h
  obtain ⟨v1, r1, rfl, rv1, r⟩ := r.cons_inv
  obtain ⟨v2, r2, rfl, rv2, r⟩ := r.cons_inv
  rw [r.nil_inv]
  unfold RelD at rv1 rv2
  subst rv1 rv2
  obtain ⟨nFb, mc, sd, cn, ps, lf, bg, hb1, p0⟩ := sim.ob b _ hb
  obtain ⟨nFc, ns, hc1⟩ := sim.ob c _ mc
  refine ⟨b, c, hidB H b c, l, rfl, ⟨ns, sd, cn, ps, lf, bg, ⟨hidB_same, hidB_b, hidB_c, hc1, hb1⟩, p0⟩, l0, l1, fun v H' ⟨ns', sd', cn', ps', lf', bg', w, p1⟩ v0 v1 => ?_⟩
  exact q v v0 v1 (.int v) F H' (Same.refl _) (sim.drawn hb w.same ⟨ns', sd', cn', ps', lf', bg', w.hc, w.hb, p1⟩) relD_int

theorem cal_draw_2 [Kd] (T : Tx g w mg ad) : Cal g P w g.K mg base 2 (He.ga g.K "_law_draw") [] f_draw_2 :=
  cal_pos (ok_draw T) T.b_draw_2 .nil (fun _ => .nil) rfl
end
end DL
namespace DL
open PySem L2
section
variable {P : Program} {w : World} {mg : Str → Option Value} {base : Heap} {ad : Ad} {g : G}
theorem ok_rules [Kd] (T : Tx g w mg ad) : FnOk P w g.K mg base (XCX P w) 3 (He.ga g.K "_law_rules") ad.d_rules ["_law_bag_here"] (spD g 1 d_rules) :=
  fn_okD T.F_rules sc_rules rfl fun cdv A outer s H E hr tk => (fb_cons (fs_set (i := 1) sc_rules.nd rfl (Or.inl rfl) fe_dicN) (fb_cons (fs_for (passes_of rfl) rfl (fi_list rfl (fe_call0 (cal_table_0 T) MF.mono (hr.mono (by decide)) tk (by rfl) T.g_table T.F_table.kp fk_nil)) (fg_name (i := 2) sc_rules.nd rfl (Or.inl rfl)) (fb_one (fs_dput (hu_of hr) (fe_var 1) (fe_ix (ixr_ix rfl) (fe_var 2) fe_int (fun _ _ => rfl)) (fe_ix (ixr_ix rfl) (fe_ix (ixr_ix rfl) (fe_var 2) fe_int (fun _ _ => rfl)) (fe_call1 (cal_draw_2 T) MF.mono (hr.mono (by decide)) tk (by rfl) T.g_draw T.F_draw.kp (fa_cons (fe_var 0) (fa_cons (fe_callB (cr_len rfl) (by rfl) T.z_len PySem.boot_len (fa_cons (fe_ix (ixr_ix rfl) (fe_var 2) fe_int (fun _ _ => rfl)) fa_nil)) fa_nil)) fk_nil) (fun _ _ => rfl))))) (fb_one (fs_ret (fe_var 1)))))
theorem cal_rules_1 [Kd] (T : Tx g w mg ad) : Cal g P w g.K mg base 3 (He.ga g.K "_law_rules") [] f_rules_1 :=
  cal_pos (ok_rules T) T.b_rules_1 .nil (fun _ => .nil) rfl
end
end DL
namespace DL
open PySem L2
section
variable {P : Program} {w : World} {mg : Str → Option Value} {base : Heap} {ad : Ad} {g : G}
theorem ok_is_choice [Kd] (T : Tx g w mg ad) : FnOk P w g.K mg base (XCX P w) 1 (He.ga g.K "is_choice") ad.d_is_choice ["rule", "given"] (spD g 2 d_is_choice) :=
  fn_okD T.F_is_choice sc_is_choice rfl fun cdv A outer s H E hr tk => (fb_one (fs_ret (fe_and (fe_callB (cr_isi rfl T.own) (by rfl) T.z_isinstance (by decide +kernel) (fa_cons (fe_var 1) (fa_cons (fe_cst (pe_bltn (v := .ty "str") (by rfl) T.z_str (by decide +kernel) rfl) fun _ => relD_ty) fa_nil))) (fe_one (fe_cmp (od_in rfl) (fe_var 1) (fe_ix (ixr_tab rfl T.t_CHOICES) (fe_cst (pe_glob (v := .ref (g.cs "CHOICES")) (by rfl) T.c_CHOICES rfl) fun _ => relD_cst) (fe_var 0) (fun _ _ => rfl)) (by rfl))))))
theorem cal_is_choice_2 [Kd] (T : Tx g w mg ad) : Cal g P w g.K mg base 1 (He.ga g.K "is_choice") [] f_is_choice_2 :=
  cal_pos (ok_is_choice T) T.b_is_choice_2 .nil (fun _ => .nil) rfl
end
end DL
namespace DL
open PySem L2
section
variable {P : Program} {w : World} {mg : Str → Option Value} {base : Heap} {ad : Ad} {g : G}
theorem ok_BadChoice_init (T : Tx g w mg ad) : FnOk P w g.K mg base CX0 1 (He.ma g.K (He.ga g.K "BadChoice") "__init__") ad.d_BadChoice_init ["self", "rule", "given"] (spX (g.cl "BadChoice") ["rule", "given"]) :=
  okX2 T.F_BadChoice_init sc_BadChoice_init rfl T.ox_BadChoice T.n_BadChoice_rule T.n_BadChoice_given (fun _ _ _ => rfl) fun cdv A outer s H E => pss_cons (ps_expr (pe_oinit (by rfl) T.g_OneError T.cr_OneError T.vi_OneError (pa_cons (pv 0) (pa_cons pe_str pa_nil)))) (pss_cons (ps_ost (pv 0) (pv 1)) (pss_one (ps_ost (pv 0) (pv 2))))
end
end DL
namespace DL
open PySem L2
section
variable {P : Program} {w : World} {mg : Str → Option Value} {base : Heap} {ad : Ad} {g : G}
theorem ok_Maker_init [Kd] (T : Tx g w mg ad) : FnOk P w g.K mg base (XCX P w) 3 (He.ma g.K (He.ga g.K "Maker") "__init__") ad.d_Maker_init ["self", "place", "key", "store", "stopped", "fits", "misfit", "compare", "unlike", "unready", "again"] (spD g 11 d_Maker_init) :=
  fn_okD T.F_Maker_init sc_Maker_init rfl fun cdv A outer s H E hr tk => (fb_cons (fs_set (i := 11) sc_Maker_init.nd rfl (Or.inl rfl) (fe_tup (fa_cons (fe_var 1) (fa_cons (fe_var 2) (fa_cons (fe_var 3) (fa_cons (fe_var 4) (fa_cons (fe_var 5) (fa_cons (fe_var 6) (fa_cons (fe_var 7) (fa_cons (fe_var 8) (fa_cons (fe_var 9) (fa_cons (fe_var 10) fa_nil)))))))))))) (fb_cons (fs_for (passes_of rfl) rfl (fi_zip rfl (by rfl) T.z_zip (fa_cons (fe_cval rfl T.cr_Maker T.cv_Maker_RULES (fun F => T.cw_Maker_RULES F) (pe_glob (v := .ref (g.cl "Maker")) (by rfl) T.g_Maker rfl)) (fa_cons (fe_var 11) fa_nil))) (fg_tup rfl rfl (fgs_cons (fg_name (i := 12) sc_Maker_init.nd rfl (Or.inl rfl)) (fgs_cons (fg_name (i := 13) sc_Maker_init.nd rfl (Or.inl rfl)) fgs_nil))) (fb_one (fs_if (ft_not (ft_val (fe_call1 (cal_is_choice_2 T) MF.mono (hr.mono (by decide)) tk (by rfl) T.g_is_choice T.F_is_choice.kp (fa_cons (fe_var 12) (fa_cons (fe_var 13) fa_nil)) fk_nil))) (fb_one (fs_raise rfl T.ox_BadChoice T.xi_BadChoice T.xt_BadChoice (ok_BadChoice_init T) (hr.mono (by decide)) T.b_BadChoice_init_3 pass0 rfl tk (by rfl) T.g_BadChoice (by decide) (fa_cons (fe_var 12) (fa_cons (fe_var 13) fa_nil)))) fb_nil))) (fb_cons (fs_fld rfl T.cl_Maker T.n_Maker_place (fe_var 0) (fe_var 1)) (fb_cons (fs_fld rfl T.cl_Maker T.n_Maker_key (fe_var 0) (fe_var 2)) (fb_cons (fs_fld rfl T.cl_Maker T.n_Maker_store (fe_var 0) (fe_var 3)) (fb_cons (fs_fld rfl T.cl_Maker T.n_Maker_stopped (fe_var 0) (fe_var 4)) (fb_cons (fs_fld rfl T.cl_Maker T.n_Maker_fits (fe_var 0) (fe_var 5)) (fb_cons (fs_fld rfl T.cl_Maker T.n_Maker_misfit (fe_var 0) (fe_var 6)) (fb_cons (fs_fld rfl T.cl_Maker T.n_Maker_compare (fe_var 0) (fe_var 7)) (fb_cons (fs_fld rfl T.cl_Maker T.n_Maker_unlike (fe_var 0) (fe_var 8)) (fb_cons (fs_fld rfl T.cl_Maker T.n_Maker_unready (fe_var 0) (fe_var 9)) (fb_one (fs_fld rfl T.cl_Maker T.n_Maker_again (fe_var 0) (fe_var 10))))))))))))))
theorem cal_Maker_init_1_place_key_store_stopped_fits_misfit_compare_unlike_unready_again [Kd] (T : Tx g w mg ad) : Cal g P w g.K mg base 3 (He.ma g.K (He.ga g.K "Maker") "__init__") ["place", "key", "store", "stopped", "fits", "misfit", "compare", "unlike", "unready", "again"] f_Maker_init_1_place_key_store_stopped_fits_misfit_compare_unlike_unready_again :=
  cal_kw (ok_Maker_init T) T.kb_Maker_init_1_place_key_store_stopped_fits_misfit_compare_unlike_unready_again rfl (fun h1 h2 r1 r2 => relD_Maker_init_1_place_key_store_stopped_fits_misfit_compare_unlike_unready_again h1 h2 r1 r2)
end
end DL
namespace DL
open PySem L2
section
variable {P : Program} {w : World} {mg : Str → Option Value} {base : Heap} {ad : Ad} {g : G}
theorem ok_maker [Kd] (T : Tx g w mg ad) : FnOk P w g.K mg base (XCX P w) 5 (He.ga g.K "_law_maker") ad.d_maker ["_law_rules_here"] (spD g 1 d_maker) :=
  fn_okD T.F_maker sc_maker rfl fun cdv A outer s H E hr tk => (fb_cons (fs_setLc (i := 1) (ow := [("_law_row", 2)]) out_F rfl sc_maker.nd rfl rfl (sw_true rfl rfl rfl (by decide +kernel)) (fi_list rfl (fe_call0 (cal_table_0 T) MF.mono (hr.mono (by decide)) tk (by rfl) T.g_table T.F_table.kp fk_nil)) (blkOk_by (own := [("_law_row", 2)]) (N := N_maker) (sc := defScope s_maker) (by decide +kernel)) (fun _ _ _ _ _ => (fgw_name (i := 2) sc_maker.nd rfl (Or.inl rfl) (by decide))) (fun _ _ _ _ _ => fts_nil) (fun _ _ _ _ _ => (fe_dget (hu_of hr) (fe_var 0) (fe_ix (ixr_ix rfl) (fe_var 2) fe_int (fun _ _ => rfl)) (fun _ _ => rfl))) MB.mono MB.mono) (fb_one (fs_ret (fe_make0 fin_freeze T.mk_Maker (cal_Maker_init_1_place_key_store_stopped_fits_misfit_compare_unlike_unready_again T) MF.mono (hr.mono (by decide)) tk (by rfl) T.g_Maker (fk_cons (fe_ix (ixr_ix rfl) (fe_var 1) fe_int (fun _ _ => rfl)) (fk_cons (fe_ix (ixr_ix rfl) (fe_var 1) fe_int (fun _ _ => rfl)) (fk_cons (fe_ix (ixr_ix rfl) (fe_var 1) fe_int (fun _ _ => rfl)) (fk_cons (fe_ix (ixr_ix rfl) (fe_var 1) fe_int (fun _ _ => rfl)) (fk_cons (fe_ix (ixr_ix rfl) (fe_var 1) fe_int (fun _ _ => rfl)) (fk_cons (fe_ix (ixr_ix rfl) (fe_var 1) fe_int (fun _ _ => rfl)) (fk_cons (fe_ix (ixr_ix rfl) (fe_var 1) fe_int (fun _ _ => rfl)) (fk_cons (fe_ix (ixr_ix rfl) (fe_var 1) fe_int (fun _ _ => rfl)) (fk_cons (fe_ix (ixr_ix rfl) (fe_var 1) fe_int (fun _ _ => rfl)) (fk_cons (fe_ix (ixr_ix rfl) (fe_var 1) fe_int (fun _ _ => rfl)) fk_nil))))))))))))))
theorem cal_maker_1 [Kd] (T : Tx g w mg ad) : Cal g P w g.K mg base 5 (He.ga g.K "_law_maker") [] f_maker_1 :=
  cal_pos (ok_maker T) T.b_maker_1 .nil (fun _ => .nil) rfl
end
end DL
namespace DL
open PySem L2
section
variable {P : Program} {w : World} {mg : Str → Option Value} {base : Heap} {ad : Ad} {g : G}
theorem ok_word [Kd] (T : Tx g w mg ad) : FnOk P w g.K mg base (XCX P w) 3 (He.ga g.K "_law_word") ad.d_word ["_law_bag_here"] (spD g 1 d_word) :=
  fn_okD T.F_word sc_word rfl fun cdv A outer s H E hr tk => (fb_cons (fs_set (i := 1) sc_word.nd rfl (Or.inr rfl) fe_str) (fb_cons (fs_set (i := 2) sc_word.nd rfl (Or.inl rfl) (fe_op (od_add rfl) fe_int (fe_call1 (cal_draw_2 T) MF.mono (hr.mono (by decide)) tk (by rfl) T.g_draw T.F_draw.kp (fa_cons (fe_var 0) (fa_cons fe_int fa_nil)) fk_nil))) (fb_cons (fs_setLc (i := 3) (ow := [("_law_k", 4)]) out_F rfl sc_word.nd rfl rfl (sw_true rfl rfl rfl (by decide +kernel)) (fi_range1 (by rfl) T.z_range (fa_cons (fe_var 2) fa_nil)) (blkOk_by (own := [("_law_k", 4)]) (N := N_word) (sc := defScope s_word) (by decide +kernel)) (fun _ _ _ _ _ => (fgw_name (i := 4) sc_word.nd rfl (Or.inl rfl) (by decide))) (fun _ _ _ _ _ => fts_nil) (fun _ _ _ _ _ => (fe_ix (ixr_ix rfl) (fe_var 1) (fe_call1 (cal_draw_2 T) MF.mono (hr.mono (by decide)) takes_blk (by rfl) T.g_draw T.F_draw.kp (fa_cons (fe_var 0) (fa_cons fe_int fa_nil)) fk_nil) (fun _ _ => rfl))) MB.mono MB.mono) (fb_one (fs_ret (fe_m1 F.slot_str_join F.type_str_join (mr_join rfl) fe_str (fe_var 3)))))))
theorem cal_word_1 [Kd] (T : Tx g w mg ad) : Cal g P w g.K mg base 3 (He.ga g.K "_law_word") [] f_word_1 :=
  cal_pos (ok_word T) T.b_word_1 .nil (fun _ => .nil) rfl
end
end DL
namespace DL
open PySem L2
section
variable {P : Program} {w : World} {mg : Str → Option Value} {base : Heap} {ad : Ad} {g : G}
theorem ok_spoilt [Kd] (T : Tx g w mg ad) : FnOk P w g.K mg base (XCX P w) 4 (He.ga g.K "_law_spoilt") ad.d_spoilt ["_law_bag_here"] (spD g 1 d_spoilt) :=
  fn_okD T.F_spoilt sc_spoilt rfl fun cdv A outer s H E hr tk => (fb_cons (fs_set (i := 1) sc_spoilt.nd rfl (Or.inl rfl) fe_str) (fb_cons (fs_set (i := 2) sc_spoilt.nd rfl (Or.inl rfl) (fe_call1 (cal_word_1 T) MF.mono (hr.mono (by decide)) tk (by rfl) T.g_word T.F_word.kp (fa_cons (fe_var 0) fa_nil) fk_nil)) (fb_cons (fs_set (i := 3) sc_spoilt.nd rfl (Or.inl rfl) (fe_call1 (cal_draw_2 T) MF.mono (hr.mono (by decide)) tk (by rfl) T.g_draw T.F_draw.kp (fa_cons (fe_var 0) (fa_cons (fe_op (od_add rfl) (fe_callB (cr_len rfl) (by rfl) T.z_len PySem.boot_len (fa_cons (fe_var 2) fa_nil)) fe_int) fa_nil)) fk_nil)) (fb_one (fs_ret (fe_op (od_add rfl) (fe_op (od_add rfl) (fe_slice rfl (fe_var 2) fo_none (fo_some (fe_var 3))) (fe_ix (ixr_ix rfl) (fe_var 1) (fe_call1 (cal_draw_2 T) MF.mono (hr.mono (by decide)) tk (by rfl) T.g_draw T.F_draw.kp (fa_cons (fe_var 0) (fa_cons fe_int fa_nil)) fk_nil) (fun _ _ => rfl))) (fe_slice rfl (fe_var 2) (fo_some (fe_var 3)) fo_none)))))))
theorem cal_spoilt_1 [Kd] (T : Tx g w mg ad) : Cal g P w g.K mg base 4 (He.ga g.K "_law_spoilt") [] f_spoilt_1 :=
  cal_pos (ok_spoilt T) T.b_spoilt_1 .nil (fun _ => .nil) rfl
end
end DL
namespace DL
open PySem L2
section
variable {P : Program} {w : World} {mg : Str → Option Value} {base : Heap} {ad : Ad} {g : G}
theorem ok_short [Kd] (T : Tx g w mg ad) : FnOk P w g.K mg base (XCX P w) 4 (He.ga g.K "_law_short") ad.d_short ["_law_bag_here"] (spD g 1 d_short) :=
  fn_okD T.F_short sc_short rfl fun cdv A outer s H E hr tk => (fb_cons (fs_set (i := 1) sc_short.nd rfl (Or.inl rfl) fe_str) (fb_cons (fs_set (i := 2) sc_short.nd rfl (Or.inl rfl) (fe_ix (ixr_ix rfl) (fe_var 1) (fe_call1 (cal_draw_2 T) MF.mono (hr.mono (by decide)) tk (by rfl) T.g_draw T.F_draw.kp (fa_cons (fe_var 0) (fa_cons fe_int fa_nil)) fk_nil) (fun _ _ => rfl))) (fb_consC (fs_if (ft_cmp (od_eq rfl hr.units) (fe_call1 (cal_draw_2 T) MF.mono (hr.mono (by decide)) tk (by rfl) T.g_draw T.F_draw.kp (fa_cons (fe_var 0) (fa_cons fe_int fa_nil)) fk_nil) fe_int (nomark _)) (fb_one (fs_set (i := 2) sc_short.nd rfl (Or.inl rfl) (fe_op (od_add rfl) (fe_var 2) (fe_ix (ixr_ix rfl) (fe_var 1) (fe_call1 (cal_draw_2 T) MF.mono (hr.mono (by decide)) tk (by rfl) T.g_draw T.F_draw.kp (fa_cons (fe_var 0) (fa_cons fe_int fa_nil)) fk_nil) (fun _ _ => rfl))))) fb_nil) (fb_consC (fs_if (ft_cmp (od_eq rfl hr.units) (fe_call1 (cal_draw_2 T) MF.mono (hr.mono (by decide)) tk (by rfl) T.g_draw T.F_draw.kp (fa_cons (fe_var 0) (fa_cons fe_int fa_nil)) fk_nil) fe_int (nomark _)) (fb_one (fs_set (i := 2) sc_short.nd rfl (Or.inl rfl) (fe_call1 (cal_word_1 T) MF.mono (hr.mono (by decide)) tk (by rfl) T.g_word T.F_word.kp (fa_cons (fe_var 0) fa_nil) fk_nil))) fb_nil) (fb_one (fs_ret (fe_var 2)))))))
theorem cal_short_1 [Kd] (T : Tx g w mg ad) : Cal g P w g.K mg base 4 (He.ga g.K "_law_short") [] f_short_1 :=
  cal_pos (ok_short T) T.b_short_1 .nil (fun _ => .nil) rfl
end
end DL
namespace DL
open PySem L2
section
variable {P : Program} {w : World} {mg : Str → Option Value} {base : Heap} {ad : Ad} {g : G}
theorem ok_arguments [Kd] (T : Tx g w mg ad) : FnOk P w g.K mg base (XCX P w) 5 (He.ga g.K "_law_arguments") ad.d_arguments ["_law_bag_here"] (spD g 1 d_arguments) :=
  fn_okD T.F_arguments sc_arguments rfl fun cdv A outer s H E hr tk => (fb_one (fs_ret (fe_callTy (cr_tuple rfl) (by rfl) T.z_tuple (by decide +kernel) (fa_cons (fe_lc (ow := [("_law_k", 1)]) out_F rfl sc_arguments.nd (fi_range1 (by rfl) T.z_range (fa_cons (fe_call1 (cal_draw_2 T) MF.mono (hr.mono (by decide)) tk (by rfl) T.g_draw T.F_draw.kp (fa_cons (fe_var 0) (fa_cons fe_int fa_nil)) fk_nil) fa_nil)) (blkOk_by (own := [("_law_k", 1)]) (N := N_arguments) (sc := defScope s_arguments) (by decide +kernel)) (fun _ _ _ _ _ => (fgw_name (i := 1) sc_arguments.nd rfl (Or.inl rfl) (by decide))) (fun _ _ _ _ _ => fts_nil) (fun _ _ _ _ _ => (fe_call1 (cal_short_1 T) MF.mono (hr.mono (by decide)) takes_blk (by rfl) T.g_short T.F_short.kp (fa_cons (fe_var 0) fa_nil) fk_nil)) MB.mono MB.mono) fa_nil))))
theorem cal_arguments_1 [Kd] (T : Tx g w mg ad) : Cal g P w g.K mg base 5 (He.ga g.K "_law_arguments") [] f_arguments_1 :=
  cal_pos (ok_arguments T) T.b_arguments_1 .nil (fun _ => .nil) rfl
end
end DL
namespace DL
open PySem L2
section
variable {P : Program} {w : World} {mg : Str → Option Value} {base : Heap} {ad : Ad} {g : G}
theorem ok_any [Kd] (T : Tx g w mg ad) : FnOk P w g.K mg base (XCX P w) 6 (He.ga g.K "_law_any") ad.d_any ["_law_bag_here"] (spD g 1 d_any) :=
  fn_okD T.F_any sc_any rfl fun cdv A outer s H E hr tk => (fb_cons (fs_set (i := 1) sc_any.nd rfl (Or.inl rfl) (fe_call1 (cal_draw_2 T) MF.mono (hr.mono (by decide)) tk (by rfl) T.g_draw T.F_draw.kp (fa_cons (fe_var 0) (fa_cons fe_int fa_nil)) fk_nil)) (fb_cons (fs_if (ft_cmp od_lt (fe_var 1) fe_int (nomark _)) (fb_one (fs_ret (fe_call1 (cal_word_1 T) MF.mono (hr.mono (by decide)) tk (by rfl) T.g_word T.F_word.kp (fa_cons (fe_var 0) fa_nil) fk_nil))) fb_nil) (fb_cons (fs_if (ft_cmp (od_eq rfl hr.units) (fe_var 1) fe_int (nomark _)) (fb_one (fs_ret (fe_call1 (cal_spoilt_1 T) MF.mono (hr.mono (by decide)) tk (by rfl) T.g_spoilt T.F_spoilt.kp (fa_cons (fe_var 0) fa_nil) fk_nil))) fb_nil) (fb_cons (fs_if (ft_cmp (od_eq rfl hr.units) (fe_var 1) fe_int (nomark _)) (fb_one (fs_ret (fe_op (od_add rfl) (fe_call1 (cal_word_1 T) MF.mono (hr.mono (by decide)) tk (by rfl) T.g_word T.F_word.kp (fa_cons (fe_var 0) fa_nil) fk_nil) (fe_call1 (cal_word_1 T) MF.mono (hr.mono (by decide)) tk (by rfl) T.g_word T.F_word.kp (fa_cons (fe_var 0) fa_nil) fk_nil)))) fb_nil) (fb_cons (fs_if (ft_cmp (od_eq rfl hr.units) (fe_var 1) fe_int (nomark _)) (fb_one (fs_ret (fe_ix (ixr_ix rfl) (fe_tup (fa_cons fe_str (fa_cons fe_non (fa_cons fe_bl (fa_cons fe_bl (fa_cons fe_int (fa_cons fe_int (fa_cons (fe_tup fa_nil) (fa_cons (fe_lst fa_nil) fa_nil))))))))) (fe_call1 (cal_draw_2 T) MF.mono (hr.mono (by decide)) tk (by rfl) T.g_draw T.F_draw.kp (fa_cons (fe_var 0) (fa_cons fe_int fa_nil)) fk_nil) (fun _ _ => rfl)))) fb_nil) (fb_cons (fs_if (ft_cmp (od_eq rfl hr.units) (fe_var 1) fe_int (nomark _)) (fb_one (fs_ret (fe_op od_sub (fe_call1 (cal_draw_2 T) MF.mono (hr.mono (by decide)) tk (by rfl) T.g_draw T.F_draw.kp (fa_cons (fe_var 0) (fa_cons (fe_op od_pow fe_int fe_int) fa_nil)) fk_nil) (fe_op od_pow fe_int fe_int)))) fb_nil) (fb_cons (fs_if (ft_cmp (od_eq rfl hr.units) (fe_var 1) fe_int (nomark _)) (fb_one (fs_ret (fe_lc (ow := [("_law_k", 2)]) out_F rfl sc_any.nd (fi_range1 (by rfl) T.z_range (fa_cons (fe_call1 (cal_draw_2 T) MF.mono (hr.mono (by decide)) tk (by rfl) T.g_draw T.F_draw.kp (fa_cons (fe_var 0) (fa_cons fe_int fa_nil)) fk_nil) fa_nil)) (blkOk_by (own := [("_law_k", 2)]) (N := N_any) (sc := defScope s_any) (by decide +kernel)) (fun _ _ _ _ _ => (fgw_name (i := 2) sc_any.nd rfl (Or.inl rfl) (by decide))) (fun _ _ _ _ _ => fts_nil) (fun _ _ _ _ _ => (fe_call1 (cal_word_1 T) MF.mono (hr.mono (by decide)) takes_blk (by rfl) T.g_word T.F_word.kp (fa_cons (fe_var 0) fa_nil) fk_nil)) MB.mono MB.mono))) fb_nil) (fb_cons (fs_if (ft_cmp (od_eq rfl hr.units) (fe_var 1) fe_int (nomark _)) (fb_one (fs_ret (fe_tup (fa_cons (fe_call1 (cal_word_1 T) MF.mono (hr.mono (by decide)) tk (by rfl) T.g_word T.F_word.kp (fa_cons (fe_var 0) fa_nil) fk_nil) (fa_cons (fe_call1 (cal_word_1 T) MF.mono (hr.mono (by decide)) tk (by rfl) T.g_word T.F_word.kp (fa_cons (fe_var 0) fa_nil) fk_nil) (fa_cons (fe_call1 (cal_word_1 T) MF.mono (hr.mono (by decide)) tk (by rfl) T.g_word T.F_word.kp (fa_cons (fe_var 0) fa_nil) fk_nil) (fa_cons (fe_call1 (cal_word_1 T) MF.mono (hr.mono (by decide)) tk (by rfl) T.g_word T.F_word.kp (fa_cons (fe_var 0) fa_nil) fk_nil) fa_nil))))))) fb_nil) (fb_cons (fs_if (ft_cmp (od_eq rfl hr.units) (fe_var 1) fe_int (nomark _)) (fb_one (fs_ret (fe_tup (fa_cons (fe_call1 (cal_word_1 T) MF.mono (hr.mono (by decide)) tk (by rfl) T.g_word T.F_word.kp (fa_cons (fe_var 0) fa_nil) fk_nil) (fa_cons (fe_call1 (cal_spoilt_1 T) MF.mono (hr.mono (by decide)) tk (by rfl) T.g_spoilt T.F_spoilt.kp (fa_cons (fe_var 0) fa_nil) fk_nil) fa_nil))))) fb_nil) (fb_cons (fs_if (ft_cmp (od_eq rfl hr.units) (fe_var 1) fe_int (nomark _)) (fb_one (fs_ret (fe_tup (fa_cons (fe_call1 (cal_word_1 T) MF.mono (hr.mono (by decide)) tk (by rfl) T.g_word T.F_word.kp (fa_cons (fe_var 0) fa_nil) fk_nil) (fa_cons (fe_ix (ixr_ix rfl) (fe_tup (fa_cons fe_str (fa_cons fe_non (fa_cons fe_bl (fa_cons fe_int (fa_cons (fe_tup fa_nil) (fa_cons (fe_lst fa_nil) fa_nil))))))) (fe_call1 (cal_draw_2 T) MF.mono (hr.mono (by decide)) tk (by rfl) T.g_draw T.F_draw.kp (fa_cons (fe_var 0) (fa_cons fe_int fa_nil)) fk_nil) (fun _ _ => rfl)) fa_nil))))) fb_nil) (fb_cons (fs_if (ft_cmp (od_eq rfl hr.units) (fe_var 1) fe_int (nomark _)) (fb_one (fs_ret (fe_tup (fa_cons (fe_tup (fa_cons (fe_call1 (cal_word_1 T) MF.mono (hr.mono (by decide)) tk (by rfl) T.g_word T.F_word.kp (fa_cons (fe_var 0) fa_nil) fk_nil) fa_nil)) fa_nil)))) fb_nil) (fb_one (fs_ret (fe_call1 (cal_arguments_1 T) MF.mono (hr.mono (by decide)) tk (by rfl) T.g_arguments T.F_arguments.kp (fa_cons (fe_var 0) fa_nil) fk_nil))))))))))))))
theorem cal_any_1 [Kd] (T : Tx g w mg ad) : Cal g P w g.K mg base 6 (He.ga g.K "_law_any") [] f_any_1 :=
  cal_pos (ok_any T) T.b_any_1 .nil (fun _ => .nil) rfl
end
end DL
namespace DL
open PySem L2
section
variable {P : Program} {w : World} {mg : Str → Option Value} {base : Heap} {ad : Ad} {g : G}
theorem ok_odd [Kd] (T : Tx g w mg ad) : FnOk P w g.K mg base (XCX P w) 7 (He.ga g.K "_law_odd") ad.d_odd ["_law_bag_here"] (spD g 1 d_odd) :=
  fn_okD T.F_odd sc_odd rfl fun cdv A outer s H E hr tk => (fb_cons (fs_if (ft_cmp (od_eq rfl hr.units) (fe_call1 (cal_draw_2 T) MF.mono (hr.mono (by decide)) tk (by rfl) T.g_draw T.F_draw.kp (fa_cons (fe_var 0) (fa_cons fe_int fa_nil)) fk_nil) fe_int (nomark _)) (fb_cons (fs_set (i := 1) sc_odd.nd rfl (Or.inl rfl) (fe_ix (ixr_ix rfl) (fe_call0 (cal_table_0 T) MF.mono (hr.mono (by decide)) tk (by rfl) T.g_table T.F_table.kp fk_nil) (fe_call1 (cal_draw_2 T) MF.mono (hr.mono (by decide)) tk (by rfl) T.g_draw T.F_draw.kp (fa_cons (fe_var 0) (fa_cons fe_int fa_nil)) fk_nil) (fun _ _ => rfl))) (fb_one (fs_ret (fe_ix (ixr_ix rfl) (fe_ix (ixr_ix rfl) (fe_var 1) fe_int (fun _ _ => rfl)) (fe_call1 (cal_draw_2 T) MF.mono (hr.mono (by decide)) tk (by rfl) T.g_draw T.F_draw.kp (fa_cons (fe_var 0) (fa_cons (fe_callB (cr_len rfl) (by rfl) T.z_len PySem.boot_len (fa_cons (fe_ix (ixr_ix rfl) (fe_var 1) fe_int (fun _ _ => rfl)) fa_nil)) fa_nil)) fk_nil) (fun _ _ => rfl))))) fb_nil) (fb_one (fs_ret (fe_call1 (cal_any_1 T) MF.mono (hr.mono (by decide)) tk (by rfl) T.g_any T.F_any.kp (fa_cons (fe_var 0) fa_nil) fk_nil))))
theorem cal_odd_1 [Kd] (T : Tx g w mg ad) : Cal g P w g.K mg base 7 (He.ga g.K "_law_odd") [] f_odd_1 :=
  cal_pos (ok_odd T) T.b_odd_1 .nil (fun _ => .nil) rfl
end
end DL
namespace DL
open PySem L2
section
variable {P : Program} {w : World} {mg : Str → Option Value} {base : Heap} {ad : Ad} {g : G}
theorem ok_first_wrong [Kd] (T : Tx g w mg ad) : FnOk P w g.K mg base (XCX P w) 2 (He.ga g.K "_law_first_wrong") ad.d_first_wrong ["_law_rules_here"] (spD g 1 d_first_wrong) :=
  fn_okD T.F_first_wrong sc_first_wrong rfl fun cdv A outer s H E hr tk => (fb_cons (fs_for (passes_of rfl) rfl (fi_list rfl (fe_call0 (cal_table_0 T) MF.mono (hr.mono (by decide)) tk (by rfl) T.g_table T.F_table.kp fk_nil)) (fg_name (i := 1) sc_first_wrong.nd rfl (Or.inl rfl)) (fb_cons (fs_set (i := 2) sc_first_wrong.nd rfl (Or.inl rfl) (fe_dget (hu_of hr) (fe_var 0) (fe_ix (ixr_ix rfl) (fe_var 1) fe_int (fun _ _ => rfl)) (fun _ _ => rfl))) (fb_one (fs_if (FW.ft (fw_or (ft_not (ft_val (fe_callB (cr_isi rfl T.own) (by rfl) T.z_isinstance (by decide +kernel) (fa_cons (fe_var 2) (fa_cons (fe_cst (pe_bltn (v := .ty "str") (by rfl) T.z_str (by decide +kernel) rfl) fun _ => relD_ty) fa_nil))))) (fw_one (.inr rfl) (ft_cmp (od_notIn rfl) (fe_var 2) (fe_ix (ixr_ix rfl) (fe_var 1) fe_int (fun _ _ => rfl)) (by rfl))))) (fb_one (fs_ret (fe_tup (fa_cons (fe_ix (ixr_ix rfl) (fe_var 1) fe_int (fun _ _ => rfl)) (fa_cons (fe_var 2) fa_nil))))) fb_nil)))) (fb_one (fs_ret fe_non)))
theorem cal_first_wrong_1 [Kd] (T : Tx g w mg ad) : Cal g P w g.K mg base 2 (He.ga g.K "_law_first_wrong") [] f_first_wrong_1 :=
  cal_pos (ok_first_wrong T) T.b_first_wrong_1 .nil (fun _ => .nil) rfl
end
end DL
namespace DL
open PySem L2
section
variable {P : Program} {w : World} {mg : Str → Option Value} {base : Heap} {ad : Ad} {g : G}
theorem ok_whole [Kd] (T : Tx g w mg ad) : FnOk P w g.K mg base (XCX P w) 1 (He.ga g.K "_law_whole") ad.d_whole ["_law_one"] (spD g 1 d_whole) :=
  fn_okD T.F_whole sc_whole rfl fun cdv A outer s H E hr tk => (fb_one (fs_ret (fe_and (fe_callB (cr_isi rfl T.own) (by rfl) T.z_isinstance (by decide +kernel) (fa_cons (fe_var 0) (fa_cons (fe_cst (pe_bltn (v := .ty "int") (by rfl) T.z_int (by decide +kernel) rfl) fun _ => relD_ty) fa_nil))) (fe_one (fe_not (fe_callB (cr_isi rfl T.own) (by rfl) T.z_isinstance (by decide +kernel) (fa_cons (fe_var 0) (fa_cons (fe_cst (pe_bltn (v := .ty "bool") (by rfl) T.z_bool (by decide +kernel) rfl) fun _ => relD_ty) fa_nil))))))))
theorem cal_whole_1 [Kd] (T : Tx g w mg ad) : Cal g P w g.K mg base 1 (He.ga g.K "_law_whole") [] f_whole_1 :=
  cal_pos (ok_whole T) T.b_whole_1 .nil (fun _ => .nil) rfl
end
end DL
namespace DL
open PySem L2
section
variable {P : Program} {w : World} {mg : Str → Option Value} {base : Heap} {ad : Ad} {g : G}
theorem ok_like [Kd] (T : Tx g w mg ad) : ∀ n, FnOk P w g.K mg base (XCX P w) (2 + n) (He.ga g.K "_law_like") ad.d_like ["_law_one", "_law_other"] (spD g 2 (d_like n))
  | 0 => fnok_fail rfl
  | n + 1 => fn_okD T.F_like sc_like rfl fun cdv A outer s H E hr tk => (fb_cons (fs_if (ft_cmp od_is (fe_var 1) fe_non (nomark _)) (fb_one (fs_ret (fe_cmp od_is (fe_var 0) fe_non (nomark _)))) fb_nil) (fb_cons (fs_if (ft_val (fe_callB (cr_isi rfl T.own) (by rfl) T.z_isinstance (by decide +kernel) (fa_cons (fe_var 1) (fa_cons (fe_cst (pe_bltn (v := .ty "bool") (by rfl) T.z_bool (by decide +kernel) rfl) fun _ => relD_ty) fa_nil)))) (fb_one (fs_ret (fe_and (fe_callB (cr_isi rfl T.own) (by rfl) T.z_isinstance (by decide +kernel) (fa_cons (fe_var 0) (fa_cons (fe_cst (pe_bltn (v := .ty "bool") (by rfl) T.z_bool (by decide +kernel) rfl) fun _ => relD_ty) fa_nil))) (fe_one (fe_cmp (od_eq rfl hr.units) (fe_var 0) (fe_var 1) (nomark _)))))) fb_nil) (fb_cons (fs_if (ft_val (fe_callB (cr_isi rfl T.own) (by rfl) T.z_isinstance (by decide +kernel) (fa_cons (fe_var 1) (fa_cons (fe_cst (pe_bltn (v := .ty "int") (by rfl) T.z_int (by decide +kernel) rfl) fun _ => relD_ty) fa_nil)))) (fb_one (fs_ret (fe_and (fe_call1 (cal_whole_1 T) MF.mono (hr.mono (by first | exact Nat.le_refl _ | exact Nat.le_trans (by decide) (Nat.le_add_right 2 n))) tk (by rfl) T.g_whole T.F_whole.kp (fa_cons (fe_var 0) fa_nil) fk_nil) (fe_one (fe_cmp (od_eq rfl hr.units) (fe_var 0) (fe_var 1) (nomark _)))))) fb_nil) (fb_cons (fs_if (ft_val (fe_callB (cr_isi rfl T.own) (by rfl) T.z_isinstance (by decide +kernel) (fa_cons (fe_var 1) (fa_cons (fe_cst (pe_bltn (v := .ty "str") (by rfl) T.z_str (by decide +kernel) rfl) fun _ => relD_ty) fa_nil)))) (fb_one (fs_ret (fe_and (fe_callB (cr_isi rfl T.own) (by rfl) T.z_isinstance (by decide +kernel) (fa_cons (fe_var 0) (fa_cons (fe_cst (pe_bltn (v := .ty "str") (by rfl) T.z_str (by decide +kernel) rfl) fun _ => relD_ty) fa_nil))) (fe_one (fe_cmp (od_eq rfl hr.units) (fe_var 0) (fe_var 1) (nomark _)))))) fb_nil) (fb_consC (fs_if (ft_val (fe_callB (cr_isi rfl T.own) (by rfl) T.z_isinstance (by decide +kernel) (fa_cons (fe_var 1) (fa_cons (fe_cst (pe_bltn (v := .ty "tuple") (by rfl) T.z_tuple (by decide +kernel) rfl) fun _ => relD_ty) fa_nil)))) (fb_one (fs_if (FW.ft (fw_or (ft_not (ft_val (fe_callB (cr_isi rfl T.own) (by rfl) T.z_isinstance (by decide +kernel) (fa_cons (fe_var 0) (fa_cons (fe_cst (pe_bltn (v := .ty "tuple") (by rfl) T.z_tuple (by decide +kernel) rfl) fun _ => relD_ty) fa_nil))))) (fw_one (.inr rfl) (ft_cmp (od_ne rfl hr.units) (fe_callB (cr_len rfl) (by rfl) T.z_len PySem.boot_len (fa_cons (fe_var 0) fa_nil)) (fe_callB (cr_len rfl) (by rfl) T.z_len PySem.boot_len (fa_cons (fe_var 1) fa_nil)) (nomark _))))) (fb_one (fs_ret fe_bl)) fb_nil)) (fb_one (fs_if (FW.ft (fw_or (ft_not (ft_val (fe_callB (cr_isi rfl T.own) (by rfl) T.z_isinstance (by decide +kernel) (fa_cons (fe_var 0) (fa_cons (fe_cst (pe_bltn (v := .ty "list") (by rfl) T.z_list (by decide +kernel) rfl) fun _ => relD_ty) fa_nil))))) (fw_one (.inr rfl) (ft_cmp (od_ne rfl hr.units) (fe_callB (cr_len rfl) (by rfl) T.z_len PySem.boot_len (fa_cons (fe_var 0) fa_nil)) (fe_callB (cr_len rfl) (by rfl) T.z_len PySem.boot_len (fa_cons (fe_var 1) fa_nil)) (nomark _))))) (fb_one (fs_ret fe_bl)) fb_nil))) (fb_cons (fs_for (passes_of rfl) rfl (fi_range1 (by rfl) T.z_range (fa_cons (fe_callB (cr_len rfl) (by rfl) T.z_len PySem.boot_len (fa_cons (fe_var 1) fa_nil)) fa_nil)) (fg_name (i := 2) sc_like.nd rfl (Or.inl rfl)) (fb_one (fs_if (ft_not (ft_val (fe_call1 (cal_pos (ok_like T n) T.b_like_2 .nil (fun _ => .nil) rfl) MF.mono (hr.mono (by first | exact Nat.le_refl _ | exact Nat.le_trans (by decide) (Nat.le_add_right 2 n))) tk (by rfl) T.g_like T.F_like.kp (fa_cons (fe_ix (ixr_ix rfl) (fe_var 0) (fe_var 2) (fun _ _ => rfl)) (fa_cons (fe_ix (ixr_ix rfl) (fe_var 1) (fe_var 2) (fun _ _ => rfl)) fa_nil)) fk_nil))) (fb_one (fs_ret fe_bl)) fb_nil))) (fb_one (fs_ret fe_bl))))))))
theorem cal_like_2 [Kd] (T : Tx g w mg ad) : Cal g P w g.K mg base 8 (He.ga g.K "_law_like") [] f_like_2 :=
  cal_pos (ok_like T 6) T.b_like_2 .nil (fun _ => .nil) rfl
end
end DL
namespace DL
open PySem L2
section
variable {P : Program} {w : World} {mg : Str → Option Value} {base : Heap} {ad : Ad} {g : G}
theorem ok_NoRule_init (T : Tx g w mg ad) : FnOk P w g.K mg base CX0 1 (He.ma g.K (He.ga g.K "NoRule") "__init__") ad.d_NoRule_init ["self", "rule"] (spX (g.cl "NoRule") ["rule"]) :=
  okX1 T.F_NoRule_init sc_NoRule_init rfl T.ox_NoRule T.n_NoRule_rule (fun _ _ => rfl) fun cdv A outer s H E => pss_cons (ps_expr (pe_oinit (by rfl) T.g_OneError T.cr_OneError T.vi_OneError (pa_cons (pv 0) (pa_cons pe_str pa_nil)))) (pss_one (ps_ost (pv 0) (pv 1)))
end
end DL
namespace DL
open PySem L2
section
variable {P : Program} {w : World} {mg : Str → Option Value} {base : Heap} {ad : Ad} {g : G}
theorem ok_Maker_choices [Kd] (T : Tx g w mg ad) : FnOk P w g.K mg base (XCX P w) 3 (smAd g.K "Maker" "choices") ad.d_Maker_choices ["rule"] (spD g 1 d_Maker_choices) :=
  fn_okD T.F_Maker_choices sc_Maker_choices rfl fun cdv A outer s H E hr tk => (fb_cons (fs_if (FW.ft (fw_or (ft_not (ft_val (fe_callB (cr_isi rfl T.own) (by rfl) T.z_isinstance (by decide +kernel) (fa_cons (fe_var 0) (fa_cons (fe_cst (pe_bltn (v := .ty "str") (by rfl) T.z_str (by decide +kernel) rfl) fun _ => relD_ty) fa_nil))))) (fw_one (.inr rfl) (ft_cmp (od_tnotin rfl T.t_CHOICES T.tk_CHOICES) (fe_var 0) (fe_cst (pe_glob (v := .ref (g.cs "CHOICES")) (by rfl) T.c_CHOICES rfl) fun _ => relD_cst) (by rfl))))) (fb_one (fs_raise rfl T.ox_NoRule T.xi_NoRule T.xt_NoRule (ok_NoRule_init T) (hr.mono (by decide)) T.b_NoRule_init_2 pass0 rfl tk (by rfl) T.g_NoRule (by decide) (fa_cons (fe_var 0) fa_nil))) fb_nil) (fb_one (fs_ret (fe_ix (ixr_tab rfl T.t_CHOICES) (fe_cst (pe_glob (v := .ref (g.cs "CHOICES")) (by rfl) T.c_CHOICES rfl) fun _ => relD_cst) (fe_var 0) (fun _ _ => rfl)))))
theorem cal_Maker_choices_1 [Kd] (T : Tx g w mg ad) : Cal g P w g.K mg base 3 (smAd g.K "Maker" "choices") [] f_Maker_choices_1 :=
  cal_pos (ok_Maker_choices T) T.b_Maker_choices_1 .nil (fun _ => .nil) rfl
end
end DL
namespace DL
open PySem L2
section
variable {P : Program} {w : World} {mg : Str → Option Value} {base : Heap} {ad : Ad} {g : G}
theorem ok_Maker_written [Kd] (T : Tx g w mg ad) : FnOk P w g.K mg base (XCX P w) 1 (He.ma g.K (He.ga g.K "Maker") "written") ad.d_Maker_written ["self"] (spD g 1 d_Maker_written) :=
  fn_okD T.F_Maker_written sc_Maker_written rfl fun cdv A outer s H E hr tk => (fb_one (fs_ret (fe_tup (fa_cons (fe_fld rfl T.cl_Maker T.n_Maker_place (fe_var 0)) (fa_cons (fe_fld rfl T.cl_Maker T.n_Maker_key (fe_var 0)) (fa_cons (fe_fld rfl T.cl_Maker T.n_Maker_store (fe_var 0)) (fa_cons (fe_fld rfl T.cl_Maker T.n_Maker_stopped (fe_var 0)) (fa_cons (fe_fld rfl T.cl_Maker T.n_Maker_fits (fe_var 0)) (fa_cons (fe_fld rfl T.cl_Maker T.n_Maker_misfit (fe_var 0)) (fa_cons (fe_fld rfl T.cl_Maker T.n_Maker_compare (fe_var 0)) (fa_cons (fe_fld rfl T.cl_Maker T.n_Maker_unlike (fe_var 0)) (fa_cons (fe_fld rfl T.cl_Maker T.n_Maker_unready (fe_var 0)) (fa_cons (fe_fld rfl T.cl_Maker T.n_Maker_again (fe_var 0)) fa_nil)))))))))))))
theorem cal_Maker_written_1 [Kd] (T : Tx g w mg ad) : Cal g P w g.K mg base 1 (He.ma g.K (He.ga g.K "Maker") "written") [] f_Maker_written_1 :=
  cal_pos (ok_Maker_written T) T.b_Maker_written_1 .nil (fun _ => .nil) rfl
end
end DL
namespace DL
open PySem L2
section
variable {P : Program} {w : World} {mg : Str → Option Value} {base : Heap} {ad : Ad} {g : G}
theorem ok_Maker_choice [Kd] (T : Tx g w mg ad) : FnOk P w g.K mg base (XCX P w) 3 (He.ma g.K (He.ga g.K "Maker") "choice") ad.d_Maker_choice ["self", "rule"] (spD g 2 d_Maker_choice) :=
  fn_okD T.F_Maker_choice sc_Maker_choice rfl fun cdv A outer s H E hr tk => (fb_cons (fs_for (passes_of rfl) rfl (fi_zip rfl (by rfl) T.z_zip (fa_cons (fe_cval rfl T.cr_Maker T.cv_Maker_RULES (fun F => T.cw_Maker_RULES F) (pe_glob (v := .ref (g.cl "Maker")) (by rfl) T.g_Maker rfl)) (fa_cons (fe_meth0 (cal_Maker_written_1 T) MF.mono (hr.mono (by decide)) tk rfl T.cl_Maker T.m_Maker_written (fe_var 0) fk_nil) fa_nil))) (fg_tup rfl rfl (fgs_cons (fg_name (i := 2) sc_Maker_choice.nd rfl (Or.inl rfl)) (fgs_cons (fg_name (i := 3) sc_Maker_choice.nd rfl (Or.inl rfl)) fgs_nil))) (fb_one (fs_if (FW.ft (fw_and (ft_val (fe_callB (cr_isi rfl T.own) (by rfl) T.z_isinstance (by decide +kernel) (fa_cons (fe_var 1) (fa_cons (fe_cst (pe_bltn (v := .ty "str") (by rfl) T.z_str (by decide +kernel) rfl) fun _ => relD_ty) fa_nil)))) (fw_one (.inl rfl) (ft_cmp (od_eq rfl hr.units) (fe_var 2) (fe_var 1) (nomark _))))) (fb_one (fs_ret (fe_var 3))) fb_nil))) (fb_one (fs_raise rfl T.ox_NoRule T.xi_NoRule T.xt_NoRule (ok_NoRule_init T) (hr.mono (by decide)) T.b_NoRule_init_2 pass0 rfl tk (by rfl) T.g_NoRule (by decide) (fa_cons (fe_var 1) fa_nil))))
theorem cal_Maker_choice_2 [Kd] (T : Tx g w mg ad) : Cal g P w g.K mg base 3 (He.ma g.K (He.ga g.K "Maker") "choice") [] f_Maker_choice_2 :=
  cal_pos (ok_Maker_choice T) T.b_Maker_choice_2 .nil (fun _ => .nil) rfl
end
end DL
namespace DL
open PySem L2
section
variable {P : Program} {w : World} {mg : Str → Option Value} {base : Heap} {ad : Ad} {g : G}
theorem cal_Maker_changed_kd [Kd] (T : Tx g w mg ad) (ks : List Str) : Cal g P w g.K mg base 5 (He.ma g.K (He.ga g.K "Maker") "changed") ks (f_Maker_changed_kd ks) :=
  fn_okK (ps := ["self"]) (pa := (defArgs s_Maker_changed).kwarg.get (by rfl)) T.F_Maker_changed sc_Maker_changed rfl rfl rfl rfl rfl rfl (by decide) (fun cdv A outer s H E hr tk => (fb_cons (fs_forK (i := 1) (passes_of rfl) rfl rfl (by first | exact Or.inl rfl | exact Or.inr (Or.inl rfl) | exact Or.inr (Or.inr rfl)) (fg_name (i := 2) sc_Maker_changed.nd rfl (Or.inl rfl)) (fb_one (fs_if (ft_cmp (od_tnotin rfl T.t_CHOICES T.tk_CHOICES) (fe_var 2) (fe_cst (pe_glob (v := .ref (g.cs "CHOICES")) (by rfl) T.c_CHOICES rfl) fun _ => relD_cst) (by rfl)) (fb_one (fs_raise rfl T.ox_NoRule T.xi_NoRule T.xt_NoRule (ok_NoRule_init T) (hr.mono (by decide)) T.b_NoRule_init_2 pass0 rfl tk (by rfl) T.g_NoRule (by decide) (fa_cons (fe_var 2) fa_nil))) fb_nil))) (fb_cons (fs_set (i := 3) sc_Maker_changed.nd rfl (Or.inl rfl) fe_dicN) (fb_cons (fs_for (passes_of rfl) rfl (fi_zip rfl (by rfl) T.z_zip (fa_cons (fe_cval rfl T.cr_Maker T.cv_Maker_RULES (fun F => T.cw_Maker_RULES F) (pe_glob (v := .ref (g.cl "Maker")) (by rfl) T.g_Maker rfl)) (fa_cons (fe_meth0 (cal_Maker_written_1 T) MF.mono (hr.mono (by decide)) tk rfl T.cl_Maker T.m_Maker_written (fe_var 0) fk_nil) fa_nil))) (fg_tup rfl rfl (fgs_cons (fg_name (i := 4) sc_Maker_changed.nd rfl (Or.inl rfl)) (fgs_cons (fg_name (i := 5) sc_Maker_changed.nd rfl (Or.inl rfl)) fgs_nil))) (fb_one (fs_dput (hu_of hr) (fe_var 3) (fe_var 4) (fe_var 5)))) (fb_cons (fs_expr (fe_update (fe_var 3) (fe_var 1))) (fb_one (fs_retD (is := [1, 3]) (fe_makeKK (i := 3) fin_freeze T.mk_Maker (cal_only (cal_Maker_init_1_place_key_store_stopped_fits_misfit_compare_unlike_unready_again T)) (fun _ => MF.mono) (hr.mono (by decide)) tk (by rfl) T.g_Maker rfl (by first | exact Or.inl rfl | exact Or.inr (Or.inl rfl) | exact Or.inr (Or.inr rfl)))))))))) ks
end
end DL
namespace DL
open PySem L2
section
variable {P : Program} {w : World} {mg : Str → Option Value} {base : Heap} {ad : Ad} {g : G}
theorem ok_unknown [Kd] (T : Tx g w mg ad) : FnOk P w g.K mg base (XCX P w) 6 (He.ga g.K "_law_unknown") ad.d_unknown ["_law_good"] (spD g 1 d_unknown) :=
  fn_okD T.F_unknown sc_unknown rfl fun cdv A outer s H E hr tk => (fb_cons (fs_set (i := 1) sc_unknown.nd rfl (Or.inl rfl) fe_non) (fb_consC (fs_try rfl rfl sc_unknown.nd tk T.exs MB.mono (fun W pn xe tk1 po1 => (fb_one (fs_expr (fe_meth0 (cal_Maker_changed_kd T ["zeal", "post"]) MF.mono (hr.mono (by decide)) tk1 rfl T.cl_Maker T.m_Maker_changed (fe_var 0) (fk_cons fe_str (fk_cons fe_str fk_nil)))))) (ClzOk.named (z := clzD g ⟨"NoRule", some 2, (hset 1 (xT (xS (xF "NoRule" "rule") xN)))⟩) rfl rfl rfl ⟨by rfl, by decide, .inl T.g_NoRule⟩ (fun a oe cls d pn hz hf => (su_set (j := 1) sc_unknown.nd rfl (Or.inl rfl) (xv_tup (xvs_cons (xv_fld T.xf_NoRule T.n_NoRule_rule hz hf (by rfl) (by first | exact Or.inl rfl | exact Or.inr (Or.inl rfl) | exact Or.inr (Or.inr rfl))) xvs_nil)))) ClzOk.nil)) (fb_one (fs_ret (fe_var 1)))))
theorem cal_unknown_1 [Kd] (T : Tx g w mg ad) : Cal g P w g.K mg base 6 (He.ga g.K "_law_unknown") [] f_unknown_1 :=
  cal_pos (ok_unknown T) T.b_unknown_1 .nil (fun _ => .nil) rfl
end
end DL
namespace DL
open PySem L2
section
variable {P : Program} {w : World} {mg : Str → Option Value} {base : Heap} {ad : Ad} {g : G}
theorem ok_several [Kd] (T : Tx g w mg ad) : FnOk P w g.K mg base (XCX P w) 9 (He.ga g.K "_law_several") ad.d_several ["_law_bag_here", "_law_good"] (spD g 2 d_several) :=
  fn_okD T.F_several sc_several rfl fun cdv A outer s H E hr tk => (fb_cons (fs_set (i := 2) sc_several.nd rfl (Or.inl rfl) (fe_lst (fa_cons (fe_call1 (cal_odd_1 T) MF.mono (hr.mono (by decide)) tk (by rfl) T.g_odd T.F_odd.kp (fa_cons (fe_var 0) fa_nil) fk_nil) (fa_cons (fe_call1 (cal_odd_1 T) MF.mono (hr.mono (by decide)) tk (by rfl) T.g_odd T.F_odd.kp (fa_cons (fe_var 0) fa_nil) fk_nil) (fa_cons (fe_call1 (cal_odd_1 T) MF.mono (hr.mono (by decide)) tk (by rfl) T.g_odd T.F_odd.kp (fa_cons (fe_var 0) fa_nil) fk_nil) fa_nil))))) (fb_cons (fs_set (i := 3) sc_several.nd rfl (Or.inr rfl) (fe_dzpM rfl (by rfl) T.z_dict (by rfl) T.z_zip (fa_cons (fe_lc (ow := [("_law_row", 8)]) out_F rfl sc_several.nd (fi_list rfl (fe_call0 (cal_table_0 T) MF.mono (hr.mono (by decide)) tk (by rfl) T.g_table T.F_table.kp fk_nil)) (blkOk_by (own := [("_law_row", 8)]) (N := N_several) (sc := defScope s_several) (by decide +kernel)) (fun _ _ _ _ _ => (fgw_name (i := 8) sc_several.nd rfl (Or.inl rfl) (by decide))) (fun _ _ _ _ _ => fts_nil) (fun _ _ _ _ _ => (fe_ix (ixr_ix rfl) (fe_var 8) fe_int (fun _ _ => rfl))) MB.mono MB.mono) (fa_cons (fe_meth0 (cal_Maker_written_1 T) MF.mono (hr.mono (by decide)) tk rfl T.cl_Maker T.m_Maker_written (fe_var 1) fk_nil) fa_nil)))) (fb_cons (fs_for (passes_of rfl) rfl (fi_range1 (by rfl) T.z_range (fa_cons fe_int fa_nil)) (fg_name (i := 4) sc_several.nd rfl (Or.inl rfl)) (fb_one (fs_dput (hu_of hr) (fe_var 3) (fe_ix (ixr_ix rfl) (fe_tup (fa_cons fe_str (fa_cons fe_str (fa_cons fe_str fa_nil)))) (fe_var 4) (fun _ _ => rfl)) (fe_ix (ixr_ix rfl) (fe_var 2) (fe_var 4) (fun _ _ => rfl))))) (fb_cons (fs_set (i := 5) sc_several.nd rfl (Or.inl rfl) fe_non) (fb_cons (fs_set (i := 6) sc_several.nd rfl (Or.inl rfl) (fe_var 1)) (fb_consC (fs_try rfl rfl sc_several.nd tk T.exs MB.mono (fun W pn xe tk1 po1 => (fb_one (fs_set (i := 6) sc_several.nd rfl (Or.inl rfl) (fe_meth0 (cal_Maker_changed_kd T ["again", "place", "key"]) MF.mono (hr.mono (by decide)) tk1 rfl T.cl_Maker T.m_Maker_changed (fe_var 1) (fk_cons (fe_ix (ixr_ix rfl) (fe_var 2) fe_int (fun _ _ => rfl)) (fk_cons (fe_ix (ixr_ix rfl) (fe_var 2) fe_int (fun _ _ => rfl)) (fk_cons (fe_ix (ixr_ix rfl) (fe_var 2) fe_int (fun _ _ => rfl)) fk_nil))))))) (ClzOk.named (z := clzD g ⟨"BadChoice", some 7, (hset 5 (xT (xS (xF "BadChoice" "rule") (xS (xF "BadChoice" "given") xN))))⟩) rfl rfl rfl ⟨by rfl, by decide, .inl T.g_BadChoice⟩ (fun a oe cls d pn hz hf => (su_set (j := 5) sc_several.nd rfl (Or.inl rfl) (xv_tup (xvs_cons (xv_fld T.xf_BadChoice T.n_BadChoice_rule hz hf (by rfl) (by first | exact Or.inl rfl | exact Or.inr (Or.inl rfl) | exact Or.inr (Or.inr rfl))) (xvs_cons (xv_fld T.xf_BadChoice T.n_BadChoice_given hz hf (by rfl) (by first | exact Or.inl rfl | exact Or.inr (Or.inl rfl) | exact Or.inr (Or.inr rfl))) xvs_nil))))) ClzOk.nil)) (fb_cons (fs_if (ft_not (ft_val (fe_call1 (cal_like_2 T) MF.mono (hr.mono (by decide)) tk (by rfl) T.g_like T.F_like.kp (fa_cons (fe_var 5) (fa_cons (fe_call1 (cal_first_wrong_1 T) MF.mono (hr.mono (by decide)) tk (by rfl) T.g_first_wrong T.F_first_wrong.kp (fa_cons (fe_var 3) fa_nil) fk_nil) fa_nil)) fk_nil))) (fb_one (fs_retD (is := [3]) fe_bl)) fb_nil) (fb_cons (fs_if (FW.ft (fw_and (ft_cmp od_is (fe_var 5) fe_non (nomark _)) (fw_one (.inl rfl) (ft_cmp (od_ne rfl hr.units) (fe_meth0 (cal_Maker_written_1 T) MF.mono (hr.mono (by decide)) tk rfl T.cl_Maker T.m_Maker_written (fe_var 6) fk_nil) (fe_callTy (cr_tuple rfl) (by rfl) T.z_tuple (by decide +kernel) (fa_cons (fe_lc (ow := [("_law_row", 8)]) out_F rfl sc_several.nd (fi_list rfl (fe_call0 (cal_table_0 T) MF.mono (hr.mono (by decide)) tk (by rfl) T.g_table T.F_table.kp fk_nil)) (blkOk_by (own := [("_law_row", 8)]) (N := N_several) (sc := defScope s_several) (by decide +kernel)) (fun _ _ _ _ _ => (fgw_name (i := 8) sc_several.nd rfl (Or.inl rfl) (by decide))) (fun _ _ _ _ _ => fts_nil) (fun _ _ _ _ _ => (fe_dget (hu_of hr) (fe_var 3) (fe_ix (ixr_ix rfl) (fe_var 8) fe_int (fun _ _ => rfl)) (fun _ _ => rfl))) MB.mono MB.mono) fa_nil)) (nomark _))))) (fb_one (fs_retD (is := [3]) fe_bl)) fb_nil) (fb_one (fs_retD (is := [3]) fe_bl))))))))))
theorem cal_several_2 [Kd] (T : Tx g w mg ad) : Cal g P w g.K mg base 9 (He.ga g.K "_law_several") [] f_several_2 :=
  cal_pos (ok_several T) T.b_several_2 .nil (fun _ => .nil) rfl
end
end DL
namespace DL
open PySem L2
section
variable {P : Program} {w : World} {mg : Str → Option Value} {base : Heap} {ad : Ad} {g : G}
theorem ok_law [Kd] (T : Tx g w mg ad) : FnOk P w g.K mg base (XCX P w) 10 (He.ga g.K "law") ad.d_law ["_law_script"] (spD g 1 d_law) :=
  fn_okD T.F_law sc_law rfl fun cdv A outer s H E hr tk => (fb_cons (fs_set (i := 1) sc_law.nd rfl (Or.inl rfl) (fe_call1 (cal_bag_1 T) MF.mono (hr.mono (by decide)) tk (by rfl) T.g_bag T.F_bag.kp (fa_cons (fe_var 0) fa_nil) fk_nil)) (fb_cons (fs_set (i := 2) sc_law.nd rfl (Or.inl rfl) (fe_call1 (cal_rules_1 T) MF.mono (hr.mono (by decide)) tk (by rfl) T.g_rules T.F_rules.kp (fa_cons (fe_var 1) fa_nil) fk_nil)) (fb_cons (fs_set (i := 3) sc_law.nd rfl (Or.inl rfl) (fe_call1 (cal_maker_1 T) MF.mono (hr.mono (by decide)) tk (by rfl) T.g_maker T.F_maker.kp (fa_cons (fe_var 2) fa_nil) fk_nil)) (fb_cons (fs_for (passes_of rfl) rfl (fi_range1 (by rfl) T.z_range (fa_cons (fe_call1 (cal_draw_2 T) MF.mono (hr.mono (by decide)) tk (by rfl) T.g_draw T.F_draw.kp (fa_cons (fe_var 1) (fa_cons fe_int fa_nil)) fk_nil) fa_nil)) (fg_name (i := 4) sc_law.nd rfl (Or.inl rfl)) (fb_one (fs_dput (hu_of hr) (fe_var 2) (fe_ix (ixr_ix rfl) (fe_ix (ixr_ix rfl) (fe_call0 (cal_table_0 T) MF.mono (hr.mono (by decide)) tk (by rfl) T.g_table T.F_table.kp fk_nil) (fe_call1 (cal_draw_2 T) MF.mono (hr.mono (by decide)) tk (by rfl) T.g_draw T.F_draw.kp (fa_cons (fe_var 1) (fa_cons fe_int fa_nil)) fk_nil) (fun _ _ => rfl)) fe_int (fun _ _ => rfl)) (fe_call1 (cal_odd_1 T) MF.mono (hr.mono (by decide)) tk (by rfl) T.g_odd T.F_odd.kp (fa_cons (fe_var 1) fa_nil) fk_nil)))) (fb_cons (fs_set (i := 5) sc_law.nd rfl (Or.inl rfl) (fe_call1 (cal_first_wrong_1 T) MF.mono (hr.mono (by decide)) tk (by rfl) T.g_first_wrong T.F_first_wrong.kp (fa_cons (fe_var 2) fa_nil) fk_nil)) (fb_cons (fs_set (i := 6) sc_law.nd rfl (Or.inl rfl) fe_non) (fb_consC (fs_try rfl rfl sc_law.nd tk T.exs MB.mono (fun W pn xe tk1 po1 => (fb_one (fs_expr (fe_call1 (cal_maker_1 T) MF.mono (hr.mono (by decide)) tk1 (by rfl) T.g_maker T.F_maker.kp (fa_cons (fe_var 2) fa_nil) fk_nil)))) (ClzOk.named (z := clzD g ⟨"BadChoice", some 7, (hset 6 (xT (xS (xF "BadChoice" "rule") (xS (xF "BadChoice" "given") xN))))⟩) rfl rfl rfl ⟨by rfl, by decide, .inl T.g_BadChoice⟩ (fun a oe cls d pn hz hf => (su_set (j := 6) sc_law.nd rfl (Or.inl rfl) (xv_tup (xvs_cons (xv_fld T.xf_BadChoice T.n_BadChoice_rule hz hf (by rfl) (by first | exact Or.inl rfl | exact Or.inr (Or.inl rfl) | exact Or.inr (Or.inr rfl))) (xvs_cons (xv_fld T.xf_BadChoice T.n_BadChoice_given hz hf (by rfl) (by first | exact Or.inl rfl | exact Or.inr (Or.inl rfl) | exact Or.inr (Or.inr rfl))) xvs_nil))))) ClzOk.nil)) (fb_cons (fs_if (ft_not (ft_val (fe_call1 (cal_like_2 T) MF.mono (hr.mono (by decide)) tk (by rfl) T.g_like T.F_like.kp (fa_cons (fe_var 6) (fa_cons (fe_var 5) fa_nil)) fk_nil))) (fb_one (fs_ret fe_bl)) fb_nil) (fb_cons (fs_set (i := 8) sc_law.nd rfl (Or.inl rfl) (fe_call1 (cal_odd_1 T) MF.mono (hr.mono (by decide)) tk (by rfl) T.g_odd T.F_odd.kp (fa_cons (fe_var 1) fa_nil) fk_nil)) (fb_consC (fs_if (ft_cmp (od_eq rfl hr.units) (fe_call1 (cal_draw_2 T) MF.mono (hr.mono (by decide)) tk (by rfl) T.g_draw T.F_draw.kp (fa_cons (fe_var 1) (fa_cons fe_int fa_nil)) fk_nil) fe_int (nomark _)) (fb_one (fs_set (i := 8) sc_law.nd rfl (Or.inl rfl) (fe_ix (ixr_ix rfl) (fe_ix (ixr_ix rfl) (fe_call0 (cal_table_0 T) MF.mono (hr.mono (by decide)) tk (by rfl) T.g_table T.F_table.kp fk_nil) (fe_call1 (cal_draw_2 T) MF.mono (hr.mono (by decide)) tk (by rfl) T.g_draw T.F_draw.kp (fa_cons (fe_var 1) (fa_cons fe_int fa_nil)) fk_nil) (fun _ _ => rfl)) fe_int (fun _ _ => rfl)))) fb_nil) (fb_consC (fs_set (i := 9) sc_law.nd rfl (Or.inl rfl) (fe_and (fe_callB (cr_isi rfl T.own) (by rfl) T.z_isinstance (by decide +kernel) (fa_cons (fe_var 8) (fa_cons (fe_cst (pe_bltn (v := .ty "str") (by rfl) T.z_str (by decide +kernel) rfl) fun _ => relD_ty) fa_nil))) (fe_one (fe_cmp (od_in rfl) (fe_var 8) (fe_lc (ow := [("_law_row", 10)]) out_F rfl sc_law.nd (fi_list rfl (fe_call0 (cal_table_0 T) MF.mono (hr.mono (by decide)) tk (by rfl) T.g_table T.F_table.kp fk_nil)) (blkOk_by (own := [("_law_row", 10)]) (N := N_law) (sc := defScope s_law) (by decide +kernel)) (fun _ _ _ _ _ => (fgw_name (i := 10) sc_law.nd rfl (Or.inl rfl) (by decide))) (fun _ _ _ _ _ => fts_nil) (fun _ _ _ _ _ => (fe_ix (ixr_ix rfl) (fe_var 10) fe_int (fun _ _ => rfl))) MB.mono MB.mono) (by rfl))))) (fb_cons (fs_set (i := 6) sc_law.nd rfl (Or.inl rfl) (fe_tup fa_nil)) (fb_consC (fs_try rfl rfl sc_law.nd tk T.exs MB.mono (fun W pn xe tk1 po1 => (fb_one (fs_expr (fe_smeth (cal_Maker_choices_1 T) MF.mono (hr.mono (by decide)) tk1 (pe_glob (v := .ref (g.cl "Maker")) (by rfl) T.g_Maker rfl) T.cr_Maker T.sm_Maker_choices (fa_cons (fe_var 8) fa_nil))))) (ClzOk.named (z := clzD g ⟨"NoRule", some 7, (hset 6 (xT (xS (xF "NoRule" "rule") xN)))⟩) rfl rfl rfl ⟨by rfl, by decide, .inl T.g_NoRule⟩ (fun a oe cls d pn hz hf => (su_set (j := 6) sc_law.nd rfl (Or.inl rfl) (xv_tup (xvs_cons (xv_fld T.xf_NoRule T.n_NoRule_rule hz hf (by rfl) (by first | exact Or.inl rfl | exact Or.inr (Or.inl rfl) | exact Or.inr (Or.inr rfl))) xvs_nil)))) ClzOk.nil)) (fb_cons (fs_if (ft_not (ft_val (fe_call1 (cal_like_2 T) MF.mono (hr.mono (by decide)) tk (by rfl) T.g_like T.F_like.kp (fa_cons (fe_var 6) (fa_cons (fe_ifExp (ft_val (fe_var 9)) (fe_tup fa_nil) (fe_tup (fa_cons (fe_var 8) fa_nil))) fa_nil)) fk_nil))) (fb_one (fs_ret fe_bl)) fb_nil) (fb_cons (fs_set (i := 6) sc_law.nd rfl (Or.inl rfl) (fe_tup fa_nil)) (fb_consC (fs_try rfl rfl sc_law.nd tk T.exs MB.mono (fun W pn xe tk1 po1 => (fb_one (fs_expr (fe_meth1 (cal_Maker_choice_2 T) MF.mono (hr.mono (by decide)) tk1 rfl T.cl_Maker T.m_Maker_choice (fe_var 3) (fa_cons (fe_var 8) fa_nil) fk_nil)))) (ClzOk.named (z := clzD g ⟨"NoRule", some 7, (hset 6 (xT (xS (xF "NoRule" "rule") xN)))⟩) rfl rfl rfl ⟨by rfl, by decide, .inl T.g_NoRule⟩ (fun a oe cls d pn hz hf => (su_set (j := 6) sc_law.nd rfl (Or.inl rfl) (xv_tup (xvs_cons (xv_fld T.xf_NoRule T.n_NoRule_rule hz hf (by rfl) (by first | exact Or.inl rfl | exact Or.inr (Or.inl rfl) | exact Or.inr (Or.inr rfl))) xvs_nil)))) ClzOk.nil)) (fb_cons (fs_if (ft_not (ft_val (fe_call1 (cal_like_2 T) MF.mono (hr.mono (by decide)) tk (by rfl) T.g_like T.F_like.kp (fa_cons (fe_var 6) (fa_cons (fe_ifExp (ft_val (fe_var 9)) (fe_tup fa_nil) (fe_tup (fa_cons (fe_var 8) fa_nil))) fa_nil)) fk_nil))) (fb_one (fs_ret fe_bl)) fb_nil) (fb_cons (fs_set (i := 6) sc_law.nd rfl (Or.inl rfl) (fe_tup fa_nil)) (fb_consC (fs_try rfl rfl sc_law.nd tk T.exs MB.mono (fun W pn xe tk1 po1 => (fb_one (fs_expr (fe_meth0 (cal_Maker_changed_kd T ["fits", "post", "again"]) MF.mono (hr.mono (by decide)) tk1 rfl T.cl_Maker T.m_Maker_changed (fe_var 3) (fk_cons (fe_call1 (cal_odd_1 T) MF.mono (hr.mono (by decide)) tk1 (by rfl) T.g_odd T.F_odd.kp (fa_cons (fe_var 1) fa_nil) fk_nil) (fk_cons fe_str (fk_cons fe_int fk_nil))))))) (ClzOk.named (z := clzD g ⟨"NoRule", some 7, (hset 6 (xT (xS (xF "NoRule" "rule") xN)))⟩) rfl rfl rfl ⟨by rfl, by decide, .inl T.g_NoRule⟩ (fun a oe cls d pn hz hf => (su_set (j := 6) sc_law.nd rfl (Or.inl rfl) (xv_tup (xvs_cons (xv_fld T.xf_NoRule T.n_NoRule_rule hz hf (by rfl) (by first | exact Or.inl rfl | exact Or.inr (Or.inl rfl) | exact Or.inr (Or.inr rfl))) xvs_nil)))) (ClzOk.plain (z := clzD g ⟨"BadChoice", none, (hset 6 (xC .non))⟩) rfl ⟨by rfl, by decide, .inl T.g_BadChoice⟩ (fun a oe cls d pn hz hf => (su_set (j := 6) sc_law.nd rfl (Or.inl rfl) (xv_cst pe_non fun _ => relD_non))) ClzOk.nil))) (fb_one (fs_ret (fe_and (fe_cmp (od_eq rfl hr.units) (fe_var 6) (fe_tup (fa_cons fe_str fa_nil)) (nomark _)) (fe_and (fe_call1 (cal_several_2 T) MF.mono (hr.mono (by decide)) tk (by rfl) T.g_several T.F_several.kp (fa_cons (fe_var 1) (fa_cons (fe_var 3) fa_nil)) fk_nil) (fe_one (fe_cmp (od_eq rfl hr.units) (fe_call1 (cal_unknown_1 T) MF.mono (hr.mono (by decide)) tk (by rfl) T.g_unknown T.F_unknown.kp (fa_cons (fe_var 3) fa_nil) fk_nil) (fe_tup (fa_cons fe_str fa_nil)) (nomark _))))))))))))))))))))))))))
end
end DL
namespace DL
open PySem L2
def fbs : List (PySem.W.Frag → Bool) := [
  fun K => decide (PySem.W.nsIn K mainGlobals "_law_bag" = some (some (.ref (He.ga K "_law_bag")))),
  fun K => decide (PySem.W.nsIn K mainGlobals "_law_table" = some (some (.ref (He.ga K "_law_table")))),
  fun K => decide (PySem.W.nsIn K mainGlobals "_law_mixed" = some (some (.ref (He.ga K "_law_mixed")))),
  fun K => decide (PySem.W.nsIn K mainGlobals "_law_draw" = some (some (.ref (He.ga K "_law_draw")))),
  fun K => decide (PySem.W.nsIn K mainGlobals "_law_rules" = some (some (.ref (He.ga K "_law_rules")))),
  fun K => decide (PySem.W.nsIn K mainGlobals "is_choice" = some (some (.ref (He.ga K "is_choice")))),
  fun K => decide (PySem.W.findIn K (.ref (He.ga K "BadChoice")) "__init__" = some (some (.ref (He.ma K (He.ga K "BadChoice") "__init__")))) && (PySem.W.isFn K (.ref (He.ma K (He.ga K "BadChoice") "__init__")) && PySem.W.keepIn K (.ref (He.ma K (He.ga K "BadChoice") "__init__"))),
  fun K => decide (PySem.W.findIn K (.ref (He.ga K "Maker")) "__init__" = some (some (.ref (He.ma K (He.ga K "Maker") "__init__")))) && (PySem.W.isFn K (.ref (He.ma K (He.ga K "Maker") "__init__")) && PySem.W.keepIn K (.ref (He.ma K (He.ga K "Maker") "__init__"))),
  fun K => decide (PySem.W.nsIn K mainGlobals "_law_maker" = some (some (.ref (He.ga K "_law_maker")))),
  fun K => decide (PySem.W.nsIn K mainGlobals "_law_word" = some (some (.ref (He.ga K "_law_word")))),
  fun K => decide (PySem.W.nsIn K mainGlobals "_law_spoilt" = some (some (.ref (He.ga K "_law_spoilt")))),
  fun K => decide (PySem.W.nsIn K mainGlobals "_law_short" = some (some (.ref (He.ga K "_law_short")))),
  fun K => decide (PySem.W.nsIn K mainGlobals "_law_arguments" = some (some (.ref (He.ga K "_law_arguments")))),
  fun K => decide (PySem.W.nsIn K mainGlobals "_law_any" = some (some (.ref (He.ga K "_law_any")))),
  fun K => decide (PySem.W.nsIn K mainGlobals "_law_odd" = some (some (.ref (He.ga K "_law_odd")))),
  fun K => decide (PySem.W.nsIn K mainGlobals "_law_first_wrong" = some (some (.ref (He.ga K "_law_first_wrong")))),
  fun K => decide (PySem.W.nsIn K mainGlobals "_law_whole" = some (some (.ref (He.ga K "_law_whole")))),
  fun K => decide (PySem.W.nsIn K mainGlobals "_law_like" = some (some (.ref (He.ga K "_law_like")))),
  fun K => decide (PySem.W.findIn K (.ref (He.ga K "NoRule")) "__init__" = some (some (.ref (He.ma K (He.ga K "NoRule") "__init__")))) && (PySem.W.isFn K (.ref (He.ma K (He.ga K "NoRule") "__init__")) && PySem.W.keepIn K (.ref (He.ma K (He.ga K "NoRule") "__init__"))),
  fun K => smFB K "Maker" "choices" && (smOk K "Maker" "choices" && PySem.W.keepIn K (.ref (smAd K "Maker" "choices"))),
  fun K => decide (PySem.W.findIn K (.ref (He.ga K "Maker")) "written" = some (some (.ref (He.ma K (He.ga K "Maker") "written")))) && (PySem.W.isFn K (.ref (He.ma K (He.ga K "Maker") "written")) && PySem.W.keepIn K (.ref (He.ma K (He.ga K "Maker") "written"))),
  fun K => decide (PySem.W.findIn K (.ref (He.ga K "Maker")) "choice" = some (some (.ref (He.ma K (He.ga K "Maker") "choice")))) && (PySem.W.isFn K (.ref (He.ma K (He.ga K "Maker") "choice")) && PySem.W.keepIn K (.ref (He.ma K (He.ga K "Maker") "choice"))),
  fun K => decide (PySem.W.findIn K (.ref (He.ga K "Maker")) "changed" = some (some (.ref (He.ma K (He.ga K "Maker") "changed")))) && (PySem.W.isFn K (.ref (He.ma K (He.ga K "Maker") "changed")) && PySem.W.keepIn K (.ref (He.ma K (He.ga K "Maker") "changed"))),
  fun K => decide (PySem.W.nsIn K mainGlobals "_law_unknown" = some (some (.ref (He.ga K "_law_unknown")))),
  fun K => decide (PySem.W.nsIn K mainGlobals "_law_several" = some (some (.ref (He.ga K "_law_several")))),
  fun K => decide (PySem.W.nsIn K mainGlobals "law" = some (some (.ref (He.ga K "law")))),
  fun K => PySem.W.plainGet K (He.ga K "Maker") Str.empty && (PySem.W.hasDictIn K (He.ga K "Maker") && (PySem.W.plainOver K (He.ga K "Maker") && decide (PySem.W.findIn K (.ref (He.ga K "Maker")) "__setattr__" = some (some (.builtin "object.__setattr__"))))),
  fun K => decide (PySem.W.nsIn K mainGlobals "Maker" = some (some (.ref (He.ga K "Maker")))),
  fun K => decide (PySem.W.findIn K (.ref (He.ga K "Maker")) "place" = some none),
  fun K => decide (PySem.W.findIn K (.ref (He.ga K "Maker")) "key" = some none),
  fun K => decide (PySem.W.findIn K (.ref (He.ga K "Maker")) "store" = some none),
  fun K => decide (PySem.W.findIn K (.ref (He.ga K "Maker")) "stopped" = some none),
  fun K => decide (PySem.W.findIn K (.ref (He.ga K "Maker")) "fits" = some none),
  fun K => decide (PySem.W.findIn K (.ref (He.ga K "Maker")) "misfit" = some none),
  fun K => decide (PySem.W.findIn K (.ref (He.ga K "Maker")) "compare" = some none),
  fun K => decide (PySem.W.findIn K (.ref (He.ga K "Maker")) "unlike" = some none),
  fun K => decide (PySem.W.findIn K (.ref (He.ga K "Maker")) "unready" = some none),
  fun K => decide (PySem.W.findIn K (.ref (He.ga K "Maker")) "again" = some none),
  fun K => PySem.W.makesIn K (He.ga K "Maker") && (decide (PySem.W.findIn K (.ref (He.ga K "Maker")) "__init__" = some (some (.ref (He.ma K (He.ga K "Maker") "__init__")))) && (PySem.W.isFn K (.ref (He.ma K (He.ga K "Maker") "__init__")) && PySem.W.keepIn K (.ref (He.ga K "Maker")))),
  fun K => PySem.W.readsIn K (He.ga K "Maker") (.type "type") && decide (PySem.W.specialIn K (.ref (He.ga K "Maker")) "__getattribute__" = some (some (.builtin "type.__getattribute__"))),
  fun K => oexB K (He.ga K "BadChoice"),
  fun K => decide (PySem.W.findIn K (.ref (He.ga K "BadChoice")) "__init__" = some (some (.ref (He.ma K (He.ga K "BadChoice") "__init__")))) && decide (PySem.W.typeIn K (.ref (He.ma K (He.ga K "BadChoice") "__init__")) = some (.type "function")),
  fun K => xfB K (He.ga K "BadChoice"),
  fun K => decide (PySem.W.findIn K (.ref (He.ga K "BadChoice")) "rule" = some none),
  fun K => decide (PySem.W.findIn K (.ref (He.ga K "BadChoice")) "given" = some none),
  fun K => oexB K (He.ga K "NoRule"),
  fun K => decide (PySem.W.findIn K (.ref (He.ga K "NoRule")) "__init__" = some (some (.ref (He.ma K (He.ga K "NoRule") "__init__")))) && decide (PySem.W.typeIn K (.ref (He.ma K (He.ga K "NoRule") "__init__")) = some (.type "function")),
  fun K => xfB K (He.ga K "NoRule"),
  fun K => decide (PySem.W.findIn K (.ref (He.ga K "NoRule")) "rule" = some none),
  fun K => decide (PySem.W.nsIn K mainGlobals "BadChoice" = some (some (.ref (He.ga K "BadChoice")))),
  fun K => decide (PySem.W.nsIn K mainGlobals "NoRule" = some (some (.ref (He.ga K "NoRule")))),
  fun K => decide (PySem.W.nsIn K mainGlobals "OneError" = some (some (.ref (He.ga K "OneError")))),
  fun K => PySem.W.readsIn K (He.ga K "OneError") (.type "type") && decide (PySem.W.specialIn K (.ref (He.ga K "OneError")) "__getattribute__" = some (some (.builtin "type.__getattribute__"))),
  fun K => vinB K "OneError",
  fun K => exmB exT K,
  fun K => ownB ownC K,
  fun K => decide (PySem.W.nsIn K mainGlobals "CHOICES" = some (some (.ref (He.ga K "CHOICES")))),
  fun K => tabB K (He.ga K "CHOICES") t_CHOICES,
  fun K => tabK K (He.ga K "CHOICES") t_CHOICES,
  fun K => cvalB K "Maker" "RULES" cc_Maker_RULES,
  fun K => decide (PySem.W.nsIn K mainGlobals "bool" = some none),
  fun K => decide (PySem.W.nsIn K mainGlobals "dict" = some none),
  fun K => decide (PySem.W.nsIn K mainGlobals "int" = some none),
  fun K => decide (PySem.W.nsIn K mainGlobals "isinstance" = some none),
  fun K => decide (PySem.W.nsIn K mainGlobals "len" = some none),
  fun K => decide (PySem.W.nsIn K mainGlobals "list" = some none),
  fun K => decide (PySem.W.nsIn K mainGlobals "range" = some none),
  fun K => decide (PySem.W.nsIn K mainGlobals "str" = some none),
  fun K => decide (PySem.W.nsIn K mainGlobals "tuple" = some none),
  fun K => decide (PySem.W.nsIn K mainGlobals "zip" = some none)]
def fns : List Df := [
  ⟨fun K => (He.ga K "_law_bag"), "_law_bag", "_law_bag", defArgs s_bag, defBody s_bag, defScope s_bag, [], []⟩,
  ⟨fun K => (He.ga K "_law_table"), "_law_table", "_law_table", defArgs s_table, defBody s_table, defScope s_table, [], []⟩,
  ⟨fun K => (He.ga K "_law_mixed"), "_law_mixed", "_law_mixed", defArgs s_mixed, defBody s_mixed, defScope s_mixed, [], []⟩,
  ⟨fun K => (He.ga K "_law_draw"), "_law_draw", "_law_draw", defArgs s_draw, defBody s_draw, defScope s_draw, [], []⟩,
  ⟨fun K => (He.ga K "_law_rules"), "_law_rules", "_law_rules", defArgs s_rules, defBody s_rules, defScope s_rules, [], []⟩,
  ⟨fun K => (He.ga K "is_choice"), "is_choice", "is_choice", defArgs s_is_choice, defBody s_is_choice, defScope s_is_choice, [], []⟩,
  ⟨fun K => (He.ma K (He.ga K "BadChoice") "__init__"), "__init__", "BadChoice.__init__", defArgs s_BadChoice_init, defBody s_BadChoice_init, defScope s_BadChoice_init, [], []⟩,
  ⟨fun K => (He.ma K (He.ga K "Maker") "__init__"), "__init__", "Maker.__init__", defArgs s_Maker_init, defBody s_Maker_init, defScope s_Maker_init, [], [("place", .str "here"), ("key", .str "none"), ("store", .str "ahead"), ("stopped", .str "leave"), ("fits", .str "any"), ("misfit", .str "anew"), ("compare", .str "never"), ("unlike", .str "anew"), ("unready", .str "give"), ("again", .str "yes")]⟩,
  ⟨fun K => (He.ga K "_law_maker"), "_law_maker", "_law_maker", defArgs s_maker, defBody s_maker, defScope s_maker, [], []⟩,
  ⟨fun K => (He.ga K "_law_word"), "_law_word", "_law_word", defArgs s_word, defBody s_word, defScope s_word, [], []⟩,
  ⟨fun K => (He.ga K "_law_spoilt"), "_law_spoilt", "_law_spoilt", defArgs s_spoilt, defBody s_spoilt, defScope s_spoilt, [], []⟩,
  ⟨fun K => (He.ga K "_law_short"), "_law_short", "_law_short", defArgs s_short, defBody s_short, defScope s_short, [], []⟩,
  ⟨fun K => (He.ga K "_law_arguments"), "_law_arguments", "_law_arguments", defArgs s_arguments, defBody s_arguments, defScope s_arguments, [], []⟩,
  ⟨fun K => (He.ga K "_law_any"), "_law_any", "_law_any", defArgs s_any, defBody s_any, defScope s_any, [], []⟩,
  ⟨fun K => (He.ga K "_law_odd"), "_law_odd", "_law_odd", defArgs s_odd, defBody s_odd, defScope s_odd, [], []⟩,
  ⟨fun K => (He.ga K "_law_first_wrong"), "_law_first_wrong", "_law_first_wrong", defArgs s_first_wrong, defBody s_first_wrong, defScope s_first_wrong, [], []⟩,
  ⟨fun K => (He.ga K "_law_whole"), "_law_whole", "_law_whole", defArgs s_whole, defBody s_whole, defScope s_whole, [], []⟩,
  ⟨fun K => (He.ga K "_law_like"), "_law_like", "_law_like", defArgs s_like, defBody s_like, defScope s_like, [], []⟩,
  ⟨fun K => (He.ma K (He.ga K "NoRule") "__init__"), "__init__", "NoRule.__init__", defArgs s_NoRule_init, defBody s_NoRule_init, defScope s_NoRule_init, [], []⟩,
  ⟨fun K => (smAd K "Maker" "choices"), "choices", "Maker.choices", defArgs s_Maker_choices, defBody s_Maker_choices, defScope s_Maker_choices, [], []⟩,
  ⟨fun K => (He.ma K (He.ga K "Maker") "written"), "written", "Maker.written", defArgs s_Maker_written, defBody s_Maker_written, defScope s_Maker_written, [], []⟩,
  ⟨fun K => (He.ma K (He.ga K "Maker") "choice"), "choice", "Maker.choice", defArgs s_Maker_choice, defBody s_Maker_choice, defScope s_Maker_choice, [], []⟩,
  ⟨fun K => (He.ma K (He.ga K "Maker") "changed"), "changed", "Maker.changed", defArgs s_Maker_changed, defBody s_Maker_changed, defScope s_Maker_changed, [], []⟩,
  ⟨fun K => (He.ga K "_law_unknown"), "_law_unknown", "_law_unknown", defArgs s_unknown, defBody s_unknown, defScope s_unknown, [], []⟩,
  ⟨fun K => (He.ga K "_law_several"), "_law_several", "_law_several", defArgs s_several, defBody s_several, defScope s_several, [], []⟩,
  ⟨fun K => (He.ga K "law"), "law", "law", defArgs s_law, defBody s_law, defScope s_law, [], []⟩]
def tbs : List He.Tab := [(fun K => He.ga K "CHOICES", ["place", "key", "store", "stopped", "fits", "misfit", "compare", "unlike", "unready", "again"])]
abbrev R : PySem.W.OpenRow := PySem.W.OpenLaw.row PySem.Challenge.rw_oneandonly_k03_makers_refused
def adrs : List Addr := ([3, 6, 4, 24, 44, 63, 66, 83, 140, 151, 158, 165, 170, 177, 182, 189, 196, 201, 208, 215, 222, 227, 234, 239, 246, 253, 258, 0, 23, 43, 62, 67, 68, 69, 70, 71, 72, 73, 74, 75, 76, 82, 139, 150, 157, 164, 169, 176, 181, 188, 195, 200, 207, 214, 221, 226, 233, 238, 245, 252, 257, 22, 25, 41, 42, 60, 61, 77, 78, 79, 80, 81, 91, 99, 108, 116, 123, 130, 137, 138, 141, 142, 145, 146, 147, 148, 149, 152, 153, 154, 155, 156, 159, 160, 161, 162, 163, 166, 167, 168] : List Addr) ++ ([171, 172, 173, 174, 175, 178, 179, 180, 183, 184, 185, 186, 187, 190, 191, 192, 193, 194, 197, 198, 199, 202, 203, 204, 205, 206, 209, 210, 211, 212, 213, 216, 217, 218, 219, 220, 223, 224, 225, 228, 229, 230, 231, 232, 235, 236, 237, 240, 241, 242, 243, 244, 247, 248, 249, 250, 251, 254, 255, 256, 40, 59, 98, 92, 106, 107, 115, 122, 129, 136, 35, 36, 37, 38, 39, 54, 55, 56, 57, 58, 93, 94, 95, 96, 97, 105, 109, 110, 111, 112, 113, 114, 117, 118, 119, 120, 121, 124, 125, 126] : List Addr) ++ ([127, 128, 131, 132, 133, 134, 135, 100, 101, 102, 103, 104, cStatics] : List Addr)
abbrev hk : PySem.W.Hook := hookL adrs fbs fns tbs
def ob (s : PySem.W.SharedT) : AlN := obsL adrs fbs fns tbs (HandSHeadRun.getT s)
theorem ob_eq (s : PySem.W.SharedT) : ob s = hk.obs s.abs := obsL_eq (HandSHeadRun.getT_eq s)
abbrev qv : Program := PySem.W.view R.prog [26]
def names : List PySem.Str := (["OneError", "NoRule", "BadChoice", "CHOICES", "is_choice", "Maker", "_law_bag", "_law_mixed", "_law_draw", "_law_word", "_law_short", "_law_arguments", "_law_table", "_law_rules", "_law_maker", "_law_whole", "_law_like", "_law_spoilt", "_law_any", "_law_odd"] : List PySem.Str) ++ (["_law_several", "_law_unknown", "_law_first_wrong"] : List PySem.Str)
end DL
namespace DL
open PySem L2
theorem run_false (w : World) : HandSHeadRun.RunEq R qv hk ob 20000 names (w.withFollow "special-get-raises" false) := by
  intro os
  kernel_rfl
theorem run_true (w : World) : HandSHeadRun.RunEq R qv hk ob 20000 names (w.withFollow "special-get-raises" true) := by
  intro os
  kernel_rfl
theorem run (w : World) : HandSHeadRun.RunEq R qv hk ob 20000 names w := PySem.W.byRow2 "special-get-raises" run_false run_true w
end DL
namespace DL
open PySem L2
theorem tx_mk {w : World} {K : PySem.W.Frag} {h : Heap} {mg : Str → Option Value} (X : K.In h) (G : h.Ns mainGlobals mg) (c : SaysN fbs fns tbs w K) : ∃ ad : Ad, ad.d_law = ad.d_law ∧ Tx (gK K) w mg ad := by
  have q0 : (decide (PySem.W.nsIn K mainGlobals "_law_bag" = some (some (.ref (He.ga K "_law_bag"))))) = true := c.fact 0
  have q1 : (decide (PySem.W.nsIn K mainGlobals "_law_table" = some (some (.ref (He.ga K "_law_table"))))) = true := c.fact 1
  have q2 : (decide (PySem.W.nsIn K mainGlobals "_law_mixed" = some (some (.ref (He.ga K "_law_mixed"))))) = true := c.fact 2
  have q3 : (decide (PySem.W.nsIn K mainGlobals "_law_draw" = some (some (.ref (He.ga K "_law_draw"))))) = true := c.fact 3
  have q4 : (decide (PySem.W.nsIn K mainGlobals "_law_rules" = some (some (.ref (He.ga K "_law_rules"))))) = true := c.fact 4
  have q5 : (decide (PySem.W.nsIn K mainGlobals "is_choice" = some (some (.ref (He.ga K "is_choice"))))) = true := c.fact 5
  have q6 : (decide (PySem.W.findIn K (.ref (He.ga K "BadChoice")) "__init__" = some (some (.ref (He.ma K (He.ga K "BadChoice") "__init__")))) && (PySem.W.isFn K (.ref (He.ma K (He.ga K "BadChoice") "__init__")) && PySem.W.keepIn K (.ref (He.ma K (He.ga K "BadChoice") "__init__")))) = true := c.fact 6
  have q7 : (decide (PySem.W.findIn K (.ref (He.ga K "Maker")) "__init__" = some (some (.ref (He.ma K (He.ga K "Maker") "__init__")))) && (PySem.W.isFn K (.ref (He.ma K (He.ga K "Maker") "__init__")) && PySem.W.keepIn K (.ref (He.ma K (He.ga K "Maker") "__init__")))) = true := c.fact 7
  have q8 : (decide (PySem.W.nsIn K mainGlobals "_law_maker" = some (some (.ref (He.ga K "_law_maker"))))) = true := c.fact 8
  have q9 : (decide (PySem.W.nsIn K mainGlobals "_law_word" = some (some (.ref (He.ga K "_law_word"))))) = true := c.fact 9
  have q10 : (decide (PySem.W.nsIn K mainGlobals "_law_spoilt" = some (some (.ref (He.ga K "_law_spoilt"))))) = true := c.fact 10
  have q11 : (decide (PySem.W.nsIn K mainGlobals "_law_short" = some (some (.ref (He.ga K "_law_short"))))) = true := c.fact 11
  have q12 : (decide (PySem.W.nsIn K mainGlobals "_law_arguments" = some (some (.ref (He.ga K "_law_arguments"))))) = true := c.fact 12
  have q13 : (decide (PySem.W.nsIn K mainGlobals "_law_any" = some (some (.ref (He.ga K "_law_any"))))) = true := c.fact 13
  have q14 : (decide (PySem.W.nsIn K mainGlobals "_law_odd" = some (some (.ref (He.ga K "_law_odd"))))) = true := c.fact 14
  have q15 : (decide (PySem.W.nsIn K mainGlobals "_law_first_wrong" = some (some (.ref (He.ga K "_law_first_wrong"))))) = true := c.fact 15
  have q16 : (decide (PySem.W.nsIn K mainGlobals "_law_whole" = some (some (.ref (He.ga K "_law_whole"))))) = true := c.fact 16
  have q17 : (decide (PySem.W.nsIn K mainGlobals "_law_like" = some (some (.ref (He.ga K "_law_like"))))) = true := c.fact 17
  have q18 : (decide (PySem.W.findIn K (.ref (He.ga K "NoRule")) "__init__" = some (some (.ref (He.ma K (He.ga K "NoRule") "__init__")))) && (PySem.W.isFn K (.ref (He.ma K (He.ga K "NoRule") "__init__")) && PySem.W.keepIn K (.ref (He.ma K (He.ga K "NoRule") "__init__")))) = true := c.fact 18
  have q19 : (smFB K "Maker" "choices" && (smOk K "Maker" "choices" && PySem.W.keepIn K (.ref (smAd K "Maker" "choices")))) = true := c.fact 19
  have q20 : (decide (PySem.W.findIn K (.ref (He.ga K "Maker")) "written" = some (some (.ref (He.ma K (He.ga K "Maker") "written")))) && (PySem.W.isFn K (.ref (He.ma K (He.ga K "Maker") "written")) && PySem.W.keepIn K (.ref (He.ma K (He.ga K "Maker") "written")))) = true := c.fact 20
  have q21 : (decide (PySem.W.findIn K (.ref (He.ga K "Maker")) "choice" = some (some (.ref (He.ma K (He.ga K "Maker") "choice")))) && (PySem.W.isFn K (.ref (He.ma K (He.ga K "Maker") "choice")) && PySem.W.keepIn K (.ref (He.ma K (He.ga K "Maker") "choice")))) = true := c.fact 21
  have q22 : (decide (PySem.W.findIn K (.ref (He.ga K "Maker")) "changed" = some (some (.ref (He.ma K (He.ga K "Maker") "changed")))) && (PySem.W.isFn K (.ref (He.ma K (He.ga K "Maker") "changed")) && PySem.W.keepIn K (.ref (He.ma K (He.ga K "Maker") "changed")))) = true := c.fact 22
  have q23 : (decide (PySem.W.nsIn K mainGlobals "_law_unknown" = some (some (.ref (He.ga K "_law_unknown"))))) = true := c.fact 23
  have q24 : (decide (PySem.W.nsIn K mainGlobals "_law_several" = some (some (.ref (He.ga K "_law_several"))))) = true := c.fact 24
  have q25 : (decide (PySem.W.nsIn K mainGlobals "law" = some (some (.ref (He.ga K "law"))))) = true := c.fact 25
  have q26 : (PySem.W.plainGet K (He.ga K "Maker") Str.empty && (PySem.W.hasDictIn K (He.ga K "Maker") && (PySem.W.plainOver K (He.ga K "Maker") && decide (PySem.W.findIn K (.ref (He.ga K "Maker")) "__setattr__" = some (some (.builtin "object.__setattr__")))))) = true := c.fact 26
  have q27 : (decide (PySem.W.nsIn K mainGlobals "Maker" = some (some (.ref (He.ga K "Maker"))))) = true := c.fact 27
  have q28 : (decide (PySem.W.findIn K (.ref (He.ga K "Maker")) "place" = some none)) = true := c.fact 28
  have q29 : (decide (PySem.W.findIn K (.ref (He.ga K "Maker")) "key" = some none)) = true := c.fact 29
  have q30 : (decide (PySem.W.findIn K (.ref (He.ga K "Maker")) "store" = some none)) = true := c.fact 30
  have q31 : (decide (PySem.W.findIn K (.ref (He.ga K "Maker")) "stopped" = some none)) = true := c.fact 31
  have q32 : (decide (PySem.W.findIn K (.ref (He.ga K "Maker")) "fits" = some none)) = true := c.fact 32
  have q33 : (decide (PySem.W.findIn K (.ref (He.ga K "Maker")) "misfit" = some none)) = true := c.fact 33
  have q34 : (decide (PySem.W.findIn K (.ref (He.ga K "Maker")) "compare" = some none)) = true := c.fact 34
  have q35 : (decide (PySem.W.findIn K (.ref (He.ga K "Maker")) "unlike" = some none)) = true := c.fact 35
  have q36 : (decide (PySem.W.findIn K (.ref (He.ga K "Maker")) "unready" = some none)) = true := c.fact 36
  have q37 : (decide (PySem.W.findIn K (.ref (He.ga K "Maker")) "again" = some none)) = true := c.fact 37
  have q38 : (PySem.W.makesIn K (He.ga K "Maker") && (decide (PySem.W.findIn K (.ref (He.ga K "Maker")) "__init__" = some (some (.ref (He.ma K (He.ga K "Maker") "__init__")))) && (PySem.W.isFn K (.ref (He.ma K (He.ga K "Maker") "__init__")) && PySem.W.keepIn K (.ref (He.ga K "Maker"))))) = true := c.fact 38
  have q39 : (PySem.W.readsIn K (He.ga K "Maker") (.type "type") && decide (PySem.W.specialIn K (.ref (He.ga K "Maker")) "__getattribute__" = some (some (.builtin "type.__getattribute__")))) = true := c.fact 39
  have q40 : (oexB K (He.ga K "BadChoice")) = true := c.fact 40
  have q41 : (decide (PySem.W.findIn K (.ref (He.ga K "BadChoice")) "__init__" = some (some (.ref (He.ma K (He.ga K "BadChoice") "__init__")))) && decide (PySem.W.typeIn K (.ref (He.ma K (He.ga K "BadChoice") "__init__")) = some (.type "function"))) = true := c.fact 41
  have q42 : (xfB K (He.ga K "BadChoice")) = true := c.fact 42
  have q43 : (decide (PySem.W.findIn K (.ref (He.ga K "BadChoice")) "rule" = some none)) = true := c.fact 43
  have q44 : (decide (PySem.W.findIn K (.ref (He.ga K "BadChoice")) "given" = some none)) = true := c.fact 44
  have q45 : (oexB K (He.ga K "NoRule")) = true := c.fact 45
  have q46 : (decide (PySem.W.findIn K (.ref (He.ga K "NoRule")) "__init__" = some (some (.ref (He.ma K (He.ga K "NoRule") "__init__")))) && decide (PySem.W.typeIn K (.ref (He.ma K (He.ga K "NoRule") "__init__")) = some (.type "function"))) = true := c.fact 46
  have q47 : (xfB K (He.ga K "NoRule")) = true := c.fact 47
  have q48 : (decide (PySem.W.findIn K (.ref (He.ga K "NoRule")) "rule" = some none)) = true := c.fact 48
  have q49 : (decide (PySem.W.nsIn K mainGlobals "BadChoice" = some (some (.ref (He.ga K "BadChoice"))))) = true := c.fact 49
  have q50 : (decide (PySem.W.nsIn K mainGlobals "NoRule" = some (some (.ref (He.ga K "NoRule"))))) = true := c.fact 50
  have q51 : (decide (PySem.W.nsIn K mainGlobals "OneError" = some (some (.ref (He.ga K "OneError"))))) = true := c.fact 51
  have q52 : (PySem.W.readsIn K (He.ga K "OneError") (.type "type") && decide (PySem.W.specialIn K (.ref (He.ga K "OneError")) "__getattribute__" = some (some (.builtin "type.__getattribute__")))) = true := c.fact 52
  have q53 : (vinB K "OneError") = true := c.fact 53
  have q54 : (exmB exT K) = true := c.fact 54
  have q55 : (ownB ownC K) = true := c.fact 55
  have q56 : (decide (PySem.W.nsIn K mainGlobals "CHOICES" = some (some (.ref (He.ga K "CHOICES"))))) = true := c.fact 56
  have q57 : (tabB K (He.ga K "CHOICES") t_CHOICES) = true := c.fact 57
  have q58 : (tabK K (He.ga K "CHOICES") t_CHOICES) = true := c.fact 58
  have q59 : (cvalB K "Maker" "RULES" cc_Maker_RULES) = true := c.fact 59
  have q60 : (decide (PySem.W.nsIn K mainGlobals "bool" = some none)) = true := c.fact 60
  have q61 : (decide (PySem.W.nsIn K mainGlobals "dict" = some none)) = true := c.fact 61
  have q62 : (decide (PySem.W.nsIn K mainGlobals "int" = some none)) = true := c.fact 62
  have q63 : (decide (PySem.W.nsIn K mainGlobals "isinstance" = some none)) = true := c.fact 63
  have q64 : (decide (PySem.W.nsIn K mainGlobals "len" = some none)) = true := c.fact 64
  have q65 : (decide (PySem.W.nsIn K mainGlobals "list" = some none)) = true := c.fact 65
  have q66 : (decide (PySem.W.nsIn K mainGlobals "range" = some none)) = true := c.fact 66
  have q67 : (decide (PySem.W.nsIn K mainGlobals "str" = some none)) = true := c.fact 67
  have q68 : (decide (PySem.W.nsIn K mainGlobals "tuple" = some none)) = true := c.fact 68
  have q69 : (decide (PySem.W.nsIn K mainGlobals "zip" = some none)) = true := c.fact 69
  obtain ⟨fd0, F0⟩ := c.def_ 0
  have bbag_1 := F0.bindsN (ps := ["_law_script"]) (fun _ _ _ _ _ _ us hl => match us, hl with | [_], _ => rfl)
  obtain ⟨fd1, F1⟩ := c.def_ 1
  have btable_0 := F1.bindsN (ps := []) (fun _ _ _ _ _ _ us hl => match us, hl with | [], _ => rfl)
  obtain ⟨fd2, F2⟩ := c.def_ 2
  have bmixed_2 := F2.bindsN (ps := ["_law_seed", "_law_count"]) (fun _ _ _ _ _ _ us hl => match us, hl with | [_, _], _ => rfl)
  obtain ⟨fd3, F3⟩ := c.def_ 3
  have bdraw_2 := F3.bindsN (ps := ["_law_bag_here", "_law_limit"]) (fun _ _ _ _ _ _ us hl => match us, hl with | [_, _], _ => rfl)
  obtain ⟨fd4, F4⟩ := c.def_ 4
  have brules_1 := F4.bindsN (ps := ["_law_bag_here"]) (fun _ _ _ _ _ _ us hl => match us, hl with | [_], _ => rfl)
  obtain ⟨fd5, F5⟩ := c.def_ 5
  have bis_choice_2 := F5.bindsN (ps := ["rule", "given"]) (fun _ _ _ _ _ _ us hl => match us, hl with | [_, _], _ => rfl)
  obtain ⟨fd6, F6⟩ := c.def_ 6
  have bBadChoice_init_3 := F6.bindsN (ps := ["self", "rule", "given"]) (fun _ _ _ _ _ _ us hl => match us, hl with | [_, _, _], _ => rfl)
  obtain ⟨fd7, F7⟩ := c.def_ 7
  obtain ⟨mMaker_init_1_place_key_store_stopped_fits_misfit_compare_unlike_unready_again, kMaker_init_1_place_key_store_stopped_fits_misfit_compare_unlike_unready_again⟩ := F7.kbinds0 (ps := ["self", "place", "key", "store", "stopped", "fits", "misfit", "compare", "unlike", "unready", "again"]) 1 ["place", "key", "store", "stopped", "fits", "misfit", "compare", "unlike", "unready", "again"] [] (fun vs ms zs => g_Maker_init_1_place_key_store_stopped_fits_misfit_compare_unlike_unready_again vs [] ms zs) (List.cons_ne_nil _ _) (fun _ h => by cases h) (fun r1 r3 r4 => rel_Maker_init_1_place_key_store_stopped_fits_misfit_compare_unlike_unready_again r1 .nil r3 r4) (fun D doc pm an cdv ct us mv ws h1 h3 h4 => match us, mv, ws, h1, h3, h4 with | [a0], [], [z0, z1, z2, z3, z4, z5, z6, z7, z8, z9], _, _, _ => (by show _ = _; kernel_rfl))
  obtain ⟨fd8, F8⟩ := c.def_ 8
  have bmaker_1 := F8.bindsN (ps := ["_law_rules_here"]) (fun _ _ _ _ _ _ us hl => match us, hl with | [_], _ => rfl)
  obtain ⟨fd9, F9⟩ := c.def_ 9
  have bword_1 := F9.bindsN (ps := ["_law_bag_here"]) (fun _ _ _ _ _ _ us hl => match us, hl with | [_], _ => rfl)
  obtain ⟨fd10, F10⟩ := c.def_ 10
  have bspoilt_1 := F10.bindsN (ps := ["_law_bag_here"]) (fun _ _ _ _ _ _ us hl => match us, hl with | [_], _ => rfl)
  obtain ⟨fd11, F11⟩ := c.def_ 11
  have bshort_1 := F11.bindsN (ps := ["_law_bag_here"]) (fun _ _ _ _ _ _ us hl => match us, hl with | [_], _ => rfl)
  obtain ⟨fd12, F12⟩ := c.def_ 12
  have barguments_1 := F12.bindsN (ps := ["_law_bag_here"]) (fun _ _ _ _ _ _ us hl => match us, hl with | [_], _ => rfl)
  obtain ⟨fd13, F13⟩ := c.def_ 13
  have bany_1 := F13.bindsN (ps := ["_law_bag_here"]) (fun _ _ _ _ _ _ us hl => match us, hl with | [_], _ => rfl)
  obtain ⟨fd14, F14⟩ := c.def_ 14
  have bodd_1 := F14.bindsN (ps := ["_law_bag_here"]) (fun _ _ _ _ _ _ us hl => match us, hl with | [_], _ => rfl)
  obtain ⟨fd15, F15⟩ := c.def_ 15
  have bfirst_wrong_1 := F15.bindsN (ps := ["_law_rules_here"]) (fun _ _ _ _ _ _ us hl => match us, hl with | [_], _ => rfl)
  obtain ⟨fd16, F16⟩ := c.def_ 16
  have bwhole_1 := F16.bindsN (ps := ["_law_one"]) (fun _ _ _ _ _ _ us hl => match us, hl with | [_], _ => rfl)
  obtain ⟨fd17, F17⟩ := c.def_ 17
  have blike_2 := F17.bindsN (ps := ["_law_one", "_law_other"]) (fun _ _ _ _ _ _ us hl => match us, hl with | [_, _], _ => rfl)
  obtain ⟨fd18, F18⟩ := c.def_ 18
  have bNoRule_init_2 := F18.bindsN (ps := ["self", "rule"]) (fun _ _ _ _ _ _ us hl => match us, hl with | [_, _], _ => rfl)
  obtain ⟨fd19, F19⟩ := c.def_ 19
  have bMaker_choices_1 := F19.bindsN (ps := ["rule"]) (fun _ _ _ _ _ _ us hl => match us, hl with | [_], _ => rfl)
  obtain ⟨fd20, F20⟩ := c.def_ 20
  have bMaker_written_1 := F20.bindsN (ps := ["self"]) (fun _ _ _ _ _ _ us hl => match us, hl with | [_], _ => rfl)
  obtain ⟨fd21, F21⟩ := c.def_ 21
  have bMaker_choice_2 := F21.bindsN (ps := ["self", "rule"]) (fun _ _ _ _ _ _ us hl => match us, hl with | [_, _], _ => rfl)
  obtain ⟨fd22, F22⟩ := c.def_ 22
  obtain ⟨fd23, F23⟩ := c.def_ 23
  have bunknown_1 := F23.bindsN (ps := ["_law_good"]) (fun _ _ _ _ _ _ us hl => match us, hl with | [_], _ => rfl)
  obtain ⟨fd24, F24⟩ := c.def_ 24
  have bseveral_2 := F24.bindsN (ps := ["_law_bag_here", "_law_good"]) (fun _ _ _ _ _ _ us hl => match us, hl with | [_, _], _ => rfl)
  obtain ⟨fd25, F25⟩ := c.def_ 25
  obtain ⟨cx_Maker_RULES, cu_Maker_RULES, cp_Maker_RULES, cq_Maker_RULES⟩ := cvalB_ok (g := gK K) rfl q59
  exact ⟨⟨fd0, fd1, fd2, fd3, fd4, fd5, fd6, fd7, fun us ws => g_Maker_init_1_place_key_store_stopped_fits_misfit_compare_unlike_unready_again us [] mMaker_init_1_place_key_store_stopped_fits_misfit_compare_unlike_unready_again ws, fd8, fd9, fd10, fd11, fd12, fd13, fd14, fd15, fd16, fd17, fd18, fd19, fd20, fd21, fd22, fd23, fd24, fd25, cu_Maker_RULES, cx_Maker_RULES⟩, rfl, ⟨F0,
    PySem.W.mg_of X G (of_decide_eq_true q0),
    bbag_1,
    F1,
    PySem.W.mg_of X G (of_decide_eq_true q1),
    btable_0,
    F2,
    PySem.W.mg_of X G (of_decide_eq_true q2),
    bmixed_2,
    F3,
    PySem.W.mg_of X G (of_decide_eq_true q3),
    bdraw_2,
    F4,
    PySem.W.mg_of X G (of_decide_eq_true q4),
    brules_1,
    F5,
    PySem.W.mg_of X G (of_decide_eq_true q5),
    bis_choice_2,
    F6,
    (let z := He.ba q6; ⟨of_decide_eq_true z.1, (He.ba z.2).1, (He.ba z.2).2⟩),
    bBadChoice_init_3,
    F7,
    (let z := He.ba q7; ⟨of_decide_eq_true z.1, (He.ba z.2).1, (He.ba z.2).2⟩),
    kMaker_init_1_place_key_store_stopped_fits_misfit_compare_unlike_unready_again,
    F8,
    PySem.W.mg_of X G (of_decide_eq_true q8),
    bmaker_1,
    F9,
    PySem.W.mg_of X G (of_decide_eq_true q9),
    bword_1,
    F10,
    PySem.W.mg_of X G (of_decide_eq_true q10),
    bspoilt_1,
    F11,
    PySem.W.mg_of X G (of_decide_eq_true q11),
    bshort_1,
    F12,
    PySem.W.mg_of X G (of_decide_eq_true q12),
    barguments_1,
    F13,
    PySem.W.mg_of X G (of_decide_eq_true q13),
    bany_1,
    F14,
    PySem.W.mg_of X G (of_decide_eq_true q14),
    bodd_1,
    F15,
    PySem.W.mg_of X G (of_decide_eq_true q15),
    bfirst_wrong_1,
    F16,
    PySem.W.mg_of X G (of_decide_eq_true q16),
    bwhole_1,
    F17,
    PySem.W.mg_of X G (of_decide_eq_true q17),
    blike_2,
    F18,
    (let z := He.ba q18; ⟨of_decide_eq_true z.1, (He.ba z.2).1, (He.ba z.2).2⟩),
    bNoRule_init_2,
    F19,
    (let z := He.ba q19; ⟨smFB_ok z.1, sm_rc (He.ba z.2).1, (He.ba z.2).2⟩),
    bMaker_choices_1,
    F20,
    (let z := He.ba q20; ⟨of_decide_eq_true z.1, (He.ba z.2).1, (He.ba z.2).2⟩),
    bMaker_written_1,
    F21,
    (let z := He.ba q21; ⟨of_decide_eq_true z.1, (He.ba z.2).1, (He.ba z.2).2⟩),
    bMaker_choice_2,
    F22,
    (let z := He.ba q22; ⟨of_decide_eq_true z.1, (He.ba z.2).1, (He.ba z.2).2⟩),
    F23,
    PySem.W.mg_of X G (of_decide_eq_true q23),
    bunknown_1,
    F24,
    PySem.W.mg_of X G (of_decide_eq_true q24),
    bseveral_2,
    F25,
    PySem.W.mg_of X G (of_decide_eq_true q25),
    (let z := He.ba q26; let y := He.ba z.2; let x := He.ba y.2; ⟨z.1, y.1, x.1, of_decide_eq_true x.2⟩),
    PySem.W.mg_of X G (of_decide_eq_true q27),
    (noattr_of q28),
    (noattr_of q29),
    (noattr_of q30),
    (noattr_of q31),
    (noattr_of q32),
    (noattr_of q33),
    (noattr_of q34),
    (noattr_of q35),
    (noattr_of q36),
    (noattr_of q37),
    (let z := He.ba q38; let y := He.ba z.2; let x := He.ba y.2; ⟨z.1, of_decide_eq_true y.1, x.1, x.2⟩),
    (let z := He.ba q39; ⟨z.1, of_decide_eq_true z.2⟩),
    oexB_ok q40,
    of_decide_eq_true (He.ba q41).1,
    of_decide_eq_true (He.ba q41).2,
    xfB_ok q42,
    (noattr_of q43),
    (noattr_of q44),
    oexB_ok q45,
    of_decide_eq_true (He.ba q46).1,
    of_decide_eq_true (He.ba q46).2,
    xfB_ok q47,
    (noattr_of q48),
    PySem.W.mg_of X G (of_decide_eq_true q49),
    PySem.W.mg_of X G (of_decide_eq_true q50),
    PySem.W.mg_of X G (of_decide_eq_true q51),
    (let z := He.ba q52; ⟨z.1, of_decide_eq_true z.2⟩),
    vinB_ok q53,
    exmB_ok q54,
    own_ok q55,
    PySem.W.mg_of X G (of_decide_eq_true q56),
    ⟨c.tab 0, q57⟩,
    q58,
    cp_Maker_RULES,
    cq_Maker_RULES,
    PySem.W.mg_none_of X G (of_decide_eq_true q60),
    PySem.W.mg_none_of X G (of_decide_eq_true q61),
    PySem.W.mg_none_of X G (of_decide_eq_true q62),
    PySem.W.mg_none_of X G (of_decide_eq_true q63),
    PySem.W.mg_none_of X G (of_decide_eq_true q64),
    PySem.W.mg_none_of X G (of_decide_eq_true q65),
    PySem.W.mg_none_of X G (of_decide_eq_true q66),
    PySem.W.mg_none_of X G (of_decide_eq_true q67),
    PySem.W.mg_none_of X G (of_decide_eq_true q68),
    PySem.W.mg_none_of X G (of_decide_eq_true q69)⟩⟩
end DL
namespace DL
open PySem L2
section
theorem facts {P : Program} {w : World} {K : PySem.W.Frag} {h : Heap} {mg : Str → Option Value} {f : Addr} (X : K.In h) (G : h.Ns mainGlobals mg) (hfa : mg ("law" : Str) = some (.ref f)) (c : SaysN fbs fns tbs w K) :
    ∃ fd : FuncData, (∀ (s : Shared) (v : Value), BindsTo s fd ⟨[v], []⟩ [("_law_script", v)]) ∧ ∀ base : Heap, K.In base → base.Ns mainGlobals mg → FnOk P w K mg base CX0 10 f fd ["_law_script"] (spLaw K) := by
  obtain ⟨ad, _, T⟩ := tx_mk X G c
  have e := hfa.symm.trans T.g_law
  cases e
  have b := FunD.bindsA (ps := ["_law_script"]) T.F_law fun _ _ _ _ _ _ us hl => match us, hl with | [_], _ => rfl
  exact ⟨ad.d_law, fun s v => b s [v] rfl, fun base _ _ => law_end (ok_law T) law_true⟩
end
end DL

open PySem PySem.W PySem.Calls PyProof.Rows in
set_option maxRecDepth 100000 in
set_option maxHeartbeats 0 in
theorem PySem.Challenge.cw_oneandonly_k03_makers_refused_holds : PySem.Challenge.rw_oneandonly_k03_makers_refused.Holds := by
  w_on; o_law
  refine HandSHeadRun.head_any (r := OpenLaw.row PySem.Challenge.rw_oneandonly_k03_makers_refused) (q := DL.qv) (H := DL.hk) (ob := DL.ob) (M := 20000) (loose := DL.names) (d := HandSHeadRun.topDef (OpenLaw.row PySem.Challenge.rw_oneandonly_k03_makers_refused).prog 26) (kwd := []) DL.ob_eq
    (by kernel_rfl) (fun s => by kernel_rfl) DL.run (by kernel_rfl) (by kernel_rfl) (by kernel_rfl) (by rfl) (by first | assumption | decide +kernel) (by decide +kernel) ⟨rfl, rfl, rfl, rfl, rfl, by decide +kernel⟩ ?hw ?hc
  case hw => w_witness2
  case hc =>
    refine L2.walk_ofE (l := PySem.Challenge.rw_oneandonly_k03_makers_refused) (n := 63) (k := 10) (x := "_law_script") (CX := L2.CX0) rfl (by decide) (by kernel_rfl) ⟨rfl, by decide, by decide⟩ ?F (fun _ _ _ _ z => z)
    intro w mg fa h Y G hmg0
    obtain ⟨K, KX, c⟩ := Y
    have hmg : mg ("law" : PySem.Str) = some (.ref fa) := by
      have e : (HandSHeadRun.topDef (OpenLaw.row PySem.Challenge.rw_oneandonly_k03_makers_refused).prog 26).name = ("law" : PySem.Str) := by kernel_rfl
      rw [← e]
      exact hmg0
    obtain ⟨fd, hb, hF⟩ := DL.facts (P := (PySem.Challenge.rw_oneandonly_k03_makers_refused).prog) (w := w) KX G hmg c
    exact ⟨K, fd, DL.spLaw K, KX, hb, fun H a ns hl _ hS => ⟨a, ns, rfl, hS, fun _ => rfl⟩, hF⟩
