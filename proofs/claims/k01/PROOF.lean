import PyProof.Rows.All
import Wide.All
import OpenK.AllK
import Wide.FinOn
import HandS.ForMost
import HandS.IsInst
import HandS.Wide
import HandS.Walk
import HandS.TupAny
import HandS.Zip
import HandS.Codes
import PySem.Challenge.RW_oneandonly_k01_names_and_arguments
set_option Elab.async false
set_option linter.all false
set_option maxRecDepth 100000
set_option maxHeartbeats 4000000
namespace Own
open PySem L2
def topS (i : Nat) : Stmt := PySem.Challenge.pw_oneandonly_k01_names_and_arguments.main.body.getD i (.Pass ⟨0, 0, 0, 0⟩)
abbrev s_mixed : Stmt := topS 8
abbrev N_mixed : List Str := ["_law_seed", "_law_count", "_law_one", "_law_two"]
theorem sc_mixed : FnScope N_mixed ["_law_seed", "_law_count"] (defScope s_mixed) := ⟨rfl, rfl, rfl, by decide +kernel, rfl, by decide +kernel, by decide +kernel⟩
abbrev s_draw : Stmt := topS 9
abbrev N_draw : List Str := ["_law_bag_here", "_law_limit", "_law_cell", "_law_digit"]
theorem sc_draw : FnScope N_draw ["_law_bag_here", "_law_limit"] (defScope s_draw) := ⟨rfl, rfl, rfl, by decide +kernel, rfl, by decide +kernel, by decide +kernel⟩
abbrev s_bag : Stmt := topS 7
abbrev N_bag : List Str := ["_law_script", "_law_seed", "_law_cell"]
theorem sc_bag : FnScope N_bag ["_law_script"] (defScope s_bag) := ⟨rfl, rfl, rfl, by decide +kernel, rfl, by decide +kernel, by decide +kernel⟩
abbrev s_word : Stmt := topS 10
abbrev N_word : List Str := ["_law_bag_here", "_law_letters", "_law_many", "_law_signs", "_law_k"]
theorem sc_word : FnScope N_word ["_law_bag_here"] (defScope s_word) := ⟨rfl, rfl, rfl, by decide +kernel, rfl, by decide +kernel, by decide +kernel⟩
abbrev s_short : Stmt := topS 11
abbrev N_short : List Str := ["_law_bag_here", "_law_letters", "_law_word_here"]
theorem sc_short : FnScope N_short ["_law_bag_here"] (defScope s_short) := ⟨rfl, rfl, rfl, by decide +kernel, rfl, by decide +kernel, by decide +kernel⟩
abbrev s_arguments : Stmt := topS 12
abbrev N_arguments : List Str := ["_law_bag_here", "_law_k"]
theorem sc_arguments : FnScope N_arguments ["_law_bag_here"] (defScope s_arguments) := ⟨rfl, rfl, rfl, by decide +kernel, rfl, by decide +kernel, by decide +kernel⟩
abbrev s_spoilt : Stmt := topS 13
abbrev N_spoilt : List Str := ["_law_bag_here", "_law_signs", "_law_word_here", "_law_where"]
theorem sc_spoilt : FnScope N_spoilt ["_law_bag_here"] (defScope s_spoilt) := ⟨rfl, rfl, rfl, by decide +kernel, rfl, by decide +kernel, by decide +kernel⟩
abbrev s_any : Stmt := topS 14
abbrev N_any : List Str := ["_law_bag_here", "_law_kind", "_law_k"]
theorem sc_any : FnScope N_any ["_law_bag_here"] (defScope s_any) := ⟨rfl, rfl, rfl, by decide +kernel, rfl, by decide +kernel, by decide +kernel⟩
abbrev s_is_name : Stmt := topS 4
abbrev N_is_name : List Str := ["thing", "sign"]
theorem sc_is_name : FnScope N_is_name ["thing"] (defScope s_is_name) := ⟨rfl, rfl, rfl, by decide +kernel, rfl, by decide +kernel, by decide +kernel⟩
abbrev s_is_arguments : Stmt := topS 5
abbrev N_is_arguments : List Str := ["thing", "word"]
theorem sc_is_arguments : FnScope N_is_arguments ["thing"] (defScope s_is_arguments) := ⟨rfl, rfl, rfl, by decide +kernel, rfl, by decide +kernel, by decide +kernel⟩
abbrev s_named : Stmt := topS 15
abbrev N_named : List Str := ["_law_thing", "_law_sign"]
theorem sc_named : FnScope N_named ["_law_thing"] (defScope s_named) := ⟨rfl, rfl, rfl, by decide +kernel, rfl, by decide +kernel, by decide +kernel⟩
abbrev s_fitting : Stmt := topS 16
abbrev N_fitting : List Str := ["_law_thing", "_law_word_here"]
theorem sc_fitting : FnScope N_fitting ["_law_thing"] (defScope s_fitting) := ⟨rfl, rfl, rfl, by decide +kernel, rfl, by decide +kernel, by decide +kernel⟩
abbrev s_truth : Stmt := topS 17
abbrev N_truth : List Str := ["_law_got", "_law_due"]
theorem sc_truth : FnScope N_truth ["_law_got", "_law_due"] (defScope s_truth) := ⟨rfl, rfl, rfl, by decide +kernel, rfl, by decide +kernel, by decide +kernel⟩
abbrev s_law : Stmt := topS 18
abbrev N_law : List Str := ["_law_script", "_law_bag_here", "_law_k", "_law_thing"]
theorem sc_law : FnScope N_law ["_law_script"] (defScope s_law) := ⟨rfl, rfl, rfl, by decide +kernel, rfl, by decide +kernel, by decide +kernel⟩
structure Ad where
  a_mixed : Addr
  d_mixed : FuncData
  a_draw : Addr
  d_draw : FuncData
  a_bag : Addr
  d_bag : FuncData
  a_word : Addr
  d_word : FuncData
  a_short : Addr
  d_short : FuncData
  a_arguments : Addr
  d_arguments : FuncData
  a_spoilt : Addr
  d_spoilt : FuncData
  a_any : Addr
  d_any : FuncData
  a_is_name : Addr
  d_is_name : FuncData
  a_is_arguments : Addr
  d_is_arguments : FuncData
  a_named : Addr
  d_named : FuncData
  a_fitting : Addr
  d_fitting : FuncData
  a_truth : Addr
  d_truth : FuncData
  a_law : Addr
  d_law : FuncData
  t_LETTERS : Tok
  t_MOST_ARGUMENTS : Tok
  t_MOST_LETTERS : Tok
structure Tx (K : PySem.W.Frag) (mg : Str → Option Value) (ad : Ad) : Prop where
  F_mixed : Fun K "_law_mixed" "_law_mixed" s_mixed ad.a_mixed ad.d_mixed
  g_mixed : mg "_law_mixed" = some (.ref ad.a_mixed)
  b_mixed : Binds K ad.d_mixed ["_law_seed", "_law_count"] []
  F_draw : Fun K "_law_draw" "_law_draw" s_draw ad.a_draw ad.d_draw
  g_draw : mg "_law_draw" = some (.ref ad.a_draw)
  b_draw : Binds K ad.d_draw ["_law_bag_here", "_law_limit"] []
  F_bag : Fun K "_law_bag" "_law_bag" s_bag ad.a_bag ad.d_bag
  g_bag : mg "_law_bag" = some (.ref ad.a_bag)
  b_bag : Binds K ad.d_bag ["_law_script"] []
  F_word : Fun K "_law_word" "_law_word" s_word ad.a_word ad.d_word
  g_word : mg "_law_word" = some (.ref ad.a_word)
  b_word : Binds K ad.d_word ["_law_bag_here"] []
  F_short : Fun K "_law_short" "_law_short" s_short ad.a_short ad.d_short
  g_short : mg "_law_short" = some (.ref ad.a_short)
  b_short : Binds K ad.d_short ["_law_bag_here"] []
  F_arguments : Fun K "_law_arguments" "_law_arguments" s_arguments ad.a_arguments ad.d_arguments
  g_arguments : mg "_law_arguments" = some (.ref ad.a_arguments)
  b_arguments : Binds K ad.d_arguments ["_law_bag_here"] []
  F_spoilt : Fun K "_law_spoilt" "_law_spoilt" s_spoilt ad.a_spoilt ad.d_spoilt
  g_spoilt : mg "_law_spoilt" = some (.ref ad.a_spoilt)
  b_spoilt : Binds K ad.d_spoilt ["_law_bag_here"] []
  F_any : Fun K "_law_any" "_law_any" s_any ad.a_any ad.d_any
  g_any : mg "_law_any" = some (.ref ad.a_any)
  b_any : Binds K ad.d_any ["_law_bag_here"] []
  F_is_name : Fun K "is_name" "is_name" s_is_name ad.a_is_name ad.d_is_name
  g_is_name : mg "is_name" = some (.ref ad.a_is_name)
  b_is_name : Binds K ad.d_is_name ["thing"] []
  F_is_arguments : Fun K "is_arguments" "is_arguments" s_is_arguments ad.a_is_arguments ad.d_is_arguments
  g_is_arguments : mg "is_arguments" = some (.ref ad.a_is_arguments)
  b_is_arguments : Binds K ad.d_is_arguments ["thing"] []
  F_named : Fun K "_law_named" "_law_named" s_named ad.a_named ad.d_named
  g_named : mg "_law_named" = some (.ref ad.a_named)
  b_named : Binds K ad.d_named ["_law_thing"] []
  F_fitting : Fun K "_law_fitting" "_law_fitting" s_fitting ad.a_fitting ad.d_fitting
  g_fitting : mg "_law_fitting" = some (.ref ad.a_fitting)
  b_fitting : Binds K ad.d_fitting ["_law_thing"] []
  F_truth : Fun K "_law_truth" "_law_truth" s_truth ad.a_truth ad.d_truth
  g_truth : mg "_law_truth" = some (.ref ad.a_truth)
  b_truth : Binds K ad.d_truth ["_law_got", "_law_due"] []
  F_law : Fun K "law" "law" s_law ad.a_law ad.d_law
  g_law : mg "law" = some (.ref ad.a_law)
  b_law : Binds K ad.d_law ["_law_script"] []
  c_LETTERS : mg "LETTERS" = some (.str "abcdefghijklmnopqrstuvwxyz" ad.t_LETTERS)
  c_MOST_ARGUMENTS : mg "MOST_ARGUMENTS" = some (.int 3 ad.t_MOST_ARGUMENTS)
  c_MOST_LETTERS : mg "MOST_LETTERS" = some (.int 8 ad.t_MOST_LETTERS)
  z_bool : mg "bool" = none
  z_int : mg "int" = none
  z_isinstance : mg "isinstance" = none
  z_len : mg "len" = none
  z_list : mg "list" = none
  z_range : mg "range" = none
  z_str : mg "str" = none
  z_tuple : mg "tuple" = none
section
variable {P : Program} {w : World} {K : PySem.W.Frag} {mg : Str → Option Value} {base : Heap} {ad : Ad}
-- ==== base
/-! ### the bag of draws: H is H0 and, apart from it, the bag at b -/
structure Wd (b : Addr) (H0 H : Hp) : Prop where
  same : Same H0 H
  nb : H0 b = none
  bag : ∃ (c : Addr) (ns : List Int) (seed cnt pos left big : Int), H0 c = none ∧ H c = some (.lst (ns.map V.int)) ∧
    H b = some (.lst [.ref c, .int seed, .int cnt, .int pos, .int left, .int big]) ∧ 0 ≤ pos
theorem upd_none {H : Hp} {a p : Addr} {o : HO} (h : upd H a o p = none) : p ≠ a ∧ H p = none := by
  by_cases e : p = a
  · subst e; rw [upd_same] at h; cases h
  · rw [upd_ne e] at h; exact ⟨e, h⟩
theorem none_upd {H : Hp} {a p : Addr} {o : HO} (n : p ≠ a) (h : H p = none) : upd H a o p = none := by
  rw [upd_ne n]; exact h
theorem Wd.at {b : Addr} {H0 H : Hp} (w : Wd b H0 H) {p : Addr} {o : HO} (h : H0 p = some o) : H p = some o := w.same _ _ h
theorem Wd.some {b : Addr} {H0 H : Hp} (w : Wd b H0 H) : ∃ o, H b = some o := by
  obtain ⟨c, ns, s, n, p, l, g, _, _, h, _⟩ := w.bag
  exact ⟨_, h⟩
theorem Wd.set {b D : Addr} {H0 H : Hp} {o o' : HO} (w : Wd b (upd H0 D o) H) : Wd b (upd H0 D o') (upd H D o') := by
  obtain ⟨s, nb, c, ns, sd, cn, ps, l, g, nc, hc, hb, h0⟩ := w
  obtain ⟨e1, n1⟩ := upd_none nb
  obtain ⟨e2, n2⟩ := upd_none nc
  refine ⟨fun p u h => ?_, none_upd e1 n1, c, ns, sd, cn, ps, l, g, none_upd e2 n2, by rw [upd_ne e2]; exact hc, by rw [upd_ne e1]; exact hb, h0⟩
  by_cases e : p = D
  · subst e; rw [upd_same] at h ⊢; exact h
  · rw [upd_ne e] at h ⊢; exact s _ _ (by rw [upd_ne e]; exact h)
theorem Wd.new {b p : Addr} {H0 H : Hp} {o : HO} (w : Wd b H0 H) (n : H p = none) : Wd b (upd H0 p o) (upd H p o) := by
  obtain ⟨s, nb, c, ns, sd, cn, ps, l, g, nc, hc, hb, h0⟩ := w
  have e1 : b ≠ p := ne_of_none hb n
  have e2 : c ≠ p := ne_of_none hc n
  refine ⟨fun q u h => ?_, none_upd e1 nb, c, ns, sd, cn, ps, l, g, none_upd e2 nc, by rw [upd_ne e2]; exact hc, by rw [upd_ne e1]; exact hb, h0⟩
  by_cases e : q = p
  · subst e; rw [upd_same] at h ⊢; exact h
  · rw [upd_ne e] at h ⊢; exact s _ _ h
theorem Wd.less {b : Addr} {H0 H1 H : Hp} (s : Same H0 H1) (w : Wd b H1 H) : Wd b H0 H := by
  obtain ⟨s1, nb, c, ns, sd, cn, ps, l, g, nc, hc, hb, h0⟩ := w
  exact ⟨s.trans s1, s.free nb, c, ns, sd, cn, ps, l, g, s.free nc, hc, hb, h0⟩
theorem same_upd {H : Hp} {p : Addr} {o : HO} (n : H p = none) : Same H (upd H p o) := fun b u h => by
  rw [upd_ne (ne_of_none h n)]; exact h
theorem Wd.free {b : Addr} {H0 H : Hp} (w : Wd b H0 H) {p : Addr} (n : H p = none) : H0 p = none := w.same.free n
theorem Wd.junk {b p : Addr} {H0 H : Hp} {o : HO} (w : Wd b H0 H) (n : H p = none) : Wd b H0 (upd H p o) :=
  (w.new n).less (same_upd (w.free n))
theorem emod_lim {x l : Int} (h : 0 < l) : 0 ≤ x % l ∧ x % l < l := ⟨Int.emod_nonneg _ (by omega), Int.emod_lt_of_pos _ h⟩
theorem atI_pos {α : Type} {xs : List α} {i : Int} (h0 : 0 ≤ i) (h1 : i < xs.length) : ∃ v, atI xs i = some v ∧ v ∈ xs := by
  have h2 : i.toNat < xs.length := by omega
  refine ⟨xs[i.toNat], ?_, List.getElem_mem h2⟩
  unfold atI ixN
  rw [if_pos h0, if_pos h1]
  simp [h2]
theorem Wd.grow {b : Addr} {H0 H H' : Hp} (w : Wd b H0 H) (s : Same H H') : Wd b H0 H' := by
  obtain ⟨s1, nb, c, ns, sd, cn, ps, l, g, nc, hc, hb, h0⟩ := w
  exact ⟨s1.trans s, nb, c, ns, sd, cn, ps, l, g, nc, s _ _ hc, s _ _ hb, h0⟩

-- ==== data
/-! ### data -/
mutual
def okd : PyData → Bool
  | .none => true
  | .bool _ => true
  | .int _ => true
  | .str z => decide (z.length ≤ 100000) && PyData.strOk z
  | .list xs => okdL xs
  | .tuple xs => okdL xs
  | .dict _ => false
def okdL : List PyData → Bool
  | [] => true
  | x :: xs => okd x && okdL xs
end
mutual
theorem okd_lay : ∀ d : PyData, okd d = true → d.canLay0 = true
  | .none, _ => rfl
  | .bool _, _ => rfl
  | .int _, _ => rfl
  | .str z, h => by
    unfold okd at h
    rw [Bool.and_eq_true] at h
    show PyData.strOk z = true
    exact h.2
  | .list xs, h => okdL_lay xs h
  | .tuple xs, h => okdL_lay xs h
  | .dict _, h => by cases h
theorem okdL_lay : ∀ ds : List PyData, okdL ds = true → PyData.canLayAll0 ds = true
  | [], _ => rfl
  | x :: xs, h => by
    unfold okdL at h
    rw [Bool.and_eq_true] at h
    show (PyData.canLay0 x && PyData.canLayAll0 xs) = true
    rw [okd_lay x h.1, okdL_lay xs h.2]
    rfl
end
structure OkD (d : PyData) : Prop where
  ok : okd d = true
  dp : d.depth ≤ 60
theorem OkD.shaped {d : PyData} (h : OkD d) : SeqAt.shaped d = true := by
  unfold SeqAt.shaped
  have := h.dp
  rw [okd_lay d h.ok, Bool.true_and]
  exact decide_eq_true (by omega)
theorem okdL_mem : ∀ {ds : List PyData}, okdL ds = true → ∀ d ∈ ds, okd d = true
  | [], _, d, hd => by cases hd
  | x :: xs, h, d, hd => by
    unfold okdL at h
    rw [Bool.and_eq_true] at h
    rcases List.mem_cons.mp hd with e | e
    · rw [e]; exact h.1
    · exact okdL_mem h.2 d e
theorem okdL_of : ∀ {ds : List PyData}, (∀ d ∈ ds, okd d = true) → okdL ds = true
  | [], _ => rfl
  | x :: xs, h => by
    unfold okdL
    rw [h x List.mem_cons_self, okdL_of fun d hd => h d (List.mem_cons_of_mem _ hd)]
    rfl
theorem depth_mem : ∀ {ds : List PyData} {d : PyData}, d ∈ ds → d.depth ≤ PyData.depthAll ds
  | x :: xs, d, hd => by
    show d.depth ≤ max x.depth (PyData.depthAll xs)
    rcases List.mem_cons.mp hd with e | e
    · rw [e]; exact Nat.le_max_left _ _
    · exact Nat.le_trans (depth_mem e) (Nat.le_max_right _ _)
theorem depth_of : ∀ {ds : List PyData} {n : Nat}, (∀ d ∈ ds, d.depth ≤ n) → PyData.depthAll ds ≤ n
  | [], n, _ => Nat.zero_le _
  | x :: xs, n, h => by
    show max x.depth (PyData.depthAll xs) ≤ n
    exact Nat.max_le.mpr ⟨h x List.mem_cons_self, depth_of fun d hd => h d (List.mem_cons_of_mem _ hd)⟩
def tyN : PyData → String
  | .none => "NoneType"
  | .bool _ => "bool"
  | .int _ => "int"
  | .str _ => "str"
  | .list _ => "list"
  | .tuple _ => "tuple"
  | .dict _ => "dict"
def isTy (m : String) : PyData → Bool
  | .none => m == "NoneType"
  | .bool _ => m == "bool" || m == "int"
  | .int _ => m == "int"
  | .str _ => m == "str"
  | .list _ => m == "list"
  | .tuple _ => m == "tuple"
  | .dict _ => m == "dict"
theorem tyx {H : Hp} {x : V} {d : PyData} (h : Dp K H x d) : TyX K H x (.type (tyN d)) := by
  cases h with
  | non => exact .base .non
  | bl b => exact .base (.bl b)
  | int i => exact .base (.int i)
  | str z => exact .base (.str z)
  | lst s _ =>
    rcases s with (h | ⟨o, h⟩) | ⟨o, its, n, hk, hc, _⟩
    · exact .base (.lst h)
    · exact .base (.frz h)
    · exact .kList hk hc
  | tup s _ =>
    rcases s with (h | ⟨o, h⟩) | ⟨o, its, n, hk, hc, _⟩
    · exact .base (.tup h)
    · exact .fTuple h
    · exact .kTuple hk hc
theorem kit_str (d : PyData) : kitB (tyN d) "str" = some (isTy "str" d) := by cases d <;> (simp only [tyN, isTy]; decide +kernel)
theorem kit_int (d : PyData) : kitB (tyN d) "int" = some (isTy "int" d) := by cases d <;> (simp only [tyN, isTy]; decide +kernel)
theorem kit_bool (d : PyData) : kitB (tyN d) "bool" = some (isTy "bool" d) := by cases d <;> (simp only [tyN, isTy]; decide +kernel)
theorem kit_list (d : PyData) : kitB (tyN d) "list" = some (isTy "list" d) := by cases d <;> (simp only [tyN, isTy]; decide +kernel)
theorem kit_tuple (d : PyData) : kitB (tyN d) "tuple" = some (isTy "tuple" d) := by cases d <;> (simp only [tyN, isTy]; decide +kernel)
theorem isi_of {H : Hp} {x : V} {d : PyData} {m : String} {Q : VK} (e : kitB (tyN d) m = some (isTy m d)) (h : Dp K H x d) (q : Q (.bl (isTy m d)) H) : rIsi K [x, .ty m] H Q :=
  ⟨x, .ty m, .type (tyN d), .type m, isTy m d, rfl, .ty m, tyx h, kit_ty e, q⟩
/-- what stands in H0 stands in a greater one -/
theorem sqL_mono {H H' : Hp} {a : Addr} {xs : List V} (s : Same H H') (h : SqL K H a xs) : SqL K H' a xs := s.seq h
theorem sqT_mono {H H' : Hp} {a : Addr} {xs : List V} (e : Same H H') (h : SqT K H a xs) : SqT K H' a xs := by
  rcases h with (h | ⟨o, h⟩) | h
  · exact .inl (.inl (e _ _ h))
  · exact .inl (.inr ⟨o, e _ _ h⟩)
  · exact .inr h
mutual
theorem Dp.mono {H H' : Hp} (s : Same H H') : ∀ {d : PyData} {v : V}, Dp K H v d → Dp K H' v d
  | .none, _, .non => .non
  | .bool _, _, .bl b => .bl b
  | .int _, _, .int i => .int i
  | .str _, _, .str z => .str z
  | .list _, _, .lst a b => .lst (sqL_mono s a) (DpAll.mono s b)
  | .tuple _, _, .tup a b => .tup (sqT_mono s a) (DpAll.mono s b)
theorem DpAll.mono {H H' : Hp} (s : Same H H') : ∀ {ds : List PyData} {vs : List V}, DpAll K H vs ds → DpAll K H' vs ds
  | [], _, .nil => .nil
  | _ :: _, _, .cons a b => .cons (Dp.mono s a) (DpAll.mono s b)
end
theorem DpAll.strs {H : Hp} : ∀ xs : List Str, DpAll K H (xs.map V.str) (xs.map PyData.str)
  | [] => .nil
  | x :: xs => .cons (.str x) (DpAll.strs xs)
theorem DpAll.get {H : Hp} : ∀ {vs : List V} {ds : List PyData}, DpAll K H vs ds → ∀ {i : Nat} {v : V}, vs[i]? = some v → ∃ d, ds[i]? = some d ∧ Dp K H v d
  | _, _, .nil, i, v, h => by simp at h
  | _, _, .cons a b, 0, v, h => by simp at h; subst h; exact ⟨_, rfl, a⟩
  | _, _, .cons a b, i + 1, v, h => by
    obtain ⟨d, h1, h2⟩ := DpAll.get b (i := i) (v := v) (by simpa using h)
    exact ⟨d, by simpa using h1, h2⟩
theorem DpAll.len {H : Hp} : ∀ {vs : List V} {ds : List PyData}, DpAll K H vs ds → vs.length = ds.length
  | _, _, .nil => rfl
  | _, _, .cons _ b => by simp [DpAll.len b]
/-! ### names -/
def letters : List Nat := ("abcdefghijklmnopqrstuvwxyz" : Str).cps.toList
def isName (z : Str) : Bool := decide (1 ≤ z.length ∧ z.length ≤ 8) && z.cps.toList.all fun c => decide (c ∈ letters)
theorem isName_iff {z : Str} : isName z = true ↔ (1 ≤ z.length ∧ z.length ≤ 8) ∧ ∀ c ∈ z.cps.toList, c ∈ letters := by
  unfold isName
  rw [Bool.and_eq_true, List.all_eq_true]
  simp only [decide_eq_true_eq]
theorem letters_ok : ∀ c ∈ letters, c < 256 := by decide +kernel
theorem name_ok {z : Str} (h : isName z = true) : okd (.str z) = true := by
  obtain ⟨⟨h1, h2⟩, h3⟩ := isName_iff.mp h
  show (decide (z.length ≤ 100000) && PyData.strOk z) = true
  rw [Bool.and_eq_true]
  refine ⟨decide_eq_true (by omega), ?_⟩
  unfold PyData.strOk
  rw [← Array.all_toList, List.all_eq_true]
  intro c hc
  have := letters_ok c (h3 c hc)
  exact decide_eq_true (by omega)

-- ==== mixed
def sp_mixed : Sp := fun vs H Q _ => ∃ s n : Int, vs = [.int s, .int n] ∧ ∀ v, Q (.int v) H
theorem ok_mixed (T : Tx K mg ad) : FnOk P w K mg base CX0 1 ad.a_mixed ad.d_mixed ["_law_seed", "_law_count"] sp_mixed := by
  refine T.F_mixed.ok sc_mixed (fun vs H Q E h => ?_) (fun cdv A outer s H vs Q E hr h => ?_)
  · obtain ⟨s, n, rfl, _⟩ := h; rfl
  · obtain ⟨sd, n, rfl, k⟩ := h
    refine ⟨_, (pss_cons (ps_set (i := 2) sc_mixed.nd rfl (Or.inl rfl) (pe_op op_mod (pe_callTy call_int1 (by rfl) T.z_int (by decide +kernel) (pa_cons (pe_op op_add (pe_op op_add (pe_op op_mul (pv 0) pe_int) (pe_op op_mul (pv 1) pe_int)) pe_int) pa_nil)) pe_int)) (pss_cons (ps_set (i := 3) sc_mixed.nd rfl (Or.inl rfl) (pe_op op_mod (pe_callTy call_int1 (by rfl) T.z_int (by decide +kernel) (pa_cons (pe_op op_add (pe_op op_mul (pv 2) (pv 2)) (pe_op op_mul (pv 1) pe_int)) pa_nil)) pe_int)) (pss_one (ps_ret (pe_op op_fdivW (pv 3) pe_int))))), ?_⟩
    refine ⟨_, rfl, _, _, rfl, rfl, .inr ⟨by decide, by decide⟩, _, rfl, _, _, rfl, rfl, .inr ⟨by decide, by decide⟩, _, _, rfl, rfl, _, _, rfl, rfl, .inl ⟨_, rfl, _, _, rfl, rfl, (show (0 : Int) < 2147483647 by decide), ?_⟩⟩
    have b := emod_lim (x := sd * 48271 + n * 69621 + 11) (l := 2147483647) (by decide)
    generalize (sd * 48271 + n * 69621 + 11) % 2147483647 = o at b
    refine ⟨_, rfl, _, rfl, _, _, rfl, rfl, .inl ⟨by omega, by omega⟩, _, rfl, _, _, rfl, rfl, .inr ⟨by decide, by decide⟩, _, _, rfl, rfl, .inl ⟨_, rfl, _, _, rfl, rfl, (show (0 : Int) < 2147483563 by decide), ?_⟩⟩
    refine ⟨_, rfl, _, _, rfl, rfl, wide_div (b := 2) (by decide) (by decide) (by decide) (by decide), ?_⟩
    exact k _

-- ==== draw
def bagL (c : Addr) (sd cn ps lf bg : Int) : List V := [.ref c, .int sd, .int cn, .int ps, .int lf, .int bg]
structure Bg (b c : Addr) (ns : List Int) (H0 H : Hp) (sd cn ps lf bg : Int) : Prop where
  same : Same H0 H
  nb : H0 b = none
  nc : H0 c = none
  hc : H c = some (.lst (ns.map V.int))
  hb : H b = some (.lst (bagL c sd cn ps lf bg))
theorem Bg.ne {b c : Addr} {ns : List Int} {H0 H : Hp} {sd cn ps lf bg : Int} (w : Bg b c ns H0 H sd cn ps lf bg) : c ≠ b := by
  refine ne_of w.hc w.hb fun e => ?_
  injection e with e
  cases ns with
  | nil => cases e
  | cons n ns => injection e with e1 _; cases e1
theorem Bg.put {b c : Addr} {ns : List Int} {H0 H : Hp} {sd cn ps lf bg : Int} (w : Bg b c ns H0 H sd cn ps lf bg) (sd' cn' ps' lf' bg' : Int) :
    Bg b c ns H0 (upd H b (.lst (bagL c sd' cn' ps' lf' bg'))) sd' cn' ps' lf' bg' :=
  ⟨fun q u h => by rw [upd_ne (ne_of_none h w.nb)]; exact w.same _ _ h, w.nb, w.nc, by rw [upd_ne w.ne]; exact w.hc, upd_same⟩
theorem Bg.wd {b c : Addr} {ns : List Int} {H0 H : Hp} {sd cn ps lf bg : Int} (w : Bg b c ns H0 H sd cn ps lf bg) (h : 0 ≤ ps) : Wd b H0 H :=
  ⟨w.same, w.nb, c, ns, sd, cn, ps, lf, bg, w.nc, w.hc, w.hb, h⟩
def sp_draw : Sp := fun vs H Q _ => ∃ (b : Addr) (H0 : Hp) (l : Int), vs = [.ref b, .int l] ∧ Wd b H0 H ∧ 0 < l ∧ l < 2 ^ 200 ∧ ∀ (v : Int) (H' : Hp), Wd b H0 H' → 0 ≤ v → v < l → Q (.int v) H'
theorem ok_draw (T : Tx K mg ad) : FnOk P w K mg base CX0 2 ad.a_draw ad.d_draw ["_law_bag_here", "_law_limit"] sp_draw := by
  refine T.F_draw.ok sc_draw (fun vs H Q E h => ?_) (fun cdv A outer s H vs Q E hr h => ?_)
  · obtain ⟨b, H0, l, rfl, _⟩ := h; rfl
  · obtain ⟨b, H0, l, rfl, ⟨sm, nb, c, ns, sd, cn, ps, lf, bg, nc, hc, hb, p0⟩, l0, l1, k⟩ := h
    have w : Bg b c ns H0 H sd cn ps lf bg := ⟨sm, nb, nc, hc, hb⟩
    clear sm nb nc hc hb
    have ld : ∀ {g : Int}, CDivW g l := wide_div (b := 200) l0 (by omega) (by decide) (by decide)
    refine ⟨_, (pss_cons (ps_asg (pe_op op_add (pe_ix ix_list (pv 0) pe_int (fun _ _ => rfl)) pe_int) (pg_sub (pv 0) pe_int set_list)) (C8.pss_cut (ps_if (PW.pt (pw_and (pt_cmpR op_eq (pe_ix ix_list (pv 0) pe_int (fun _ _ => rfl)) pe_int (nomark _)) (pw_and1 (pt_cmpR op_lt (pe_ix ix_list (pv 0) pe_int (fun _ _ => rfl)) (pe_callB call_len_seq (by rfl) T.z_len PySem.boot_len (pa_cons (pe_ix ix_list (pv 0) pe_int (fun _ _ => rfl)) pa_nil)) (nomark _))))) (pss_cons (ps_set (i := 2) sc_draw.nd rfl (Or.inl rfl) (pe_ix ix_list (pe_ix ix_list (pv 0) pe_int (fun _ _ => rfl)) (pe_ix ix_list (pv 0) pe_int (fun _ _ => rfl)) (fun _ _ => rfl))) (pss_cons (ps_asg (pe_op op_add (pe_ix ix_list (pv 0) pe_int (fun _ _ => rfl)) pe_int) (pg_sub (pv 0) pe_int set_list)) (pss_cons (ps_if (pt_cmpR op_lt (pv 2) (pe_op op_pow pe_int pe_int) (nomark _)) (pss_one (ps_ret (pe_op op_mod (pe_callTy call_int1 (by rfl) T.z_int (by decide +kernel) (pa_cons (pe_call (ok_mixed T) (hr.mono (by decide)) (by rfl) T.g_mixed T.F_mixed.kp T.b_mixed .nil pass0 (pa_cons (pe_op op_mod (pe_callTy call_int1 (by rfl) T.z_int (by decide +kernel) (pa_cons (pv 2) pa_nil)) pe_int) (pa_cons (pe_ix ix_list (pv 0) pe_int (fun _ _ => rfl)) pa_nil))) pa_nil)) (pv 1)))) pss_nil) (pss_cons (ps_asg pe_int (pg_sub (pv 0) pe_int set_list)) (pss_one (ps_asg (pe_op op_sub (pv 2) (pe_op op_pow pe_int pe_int)) (pg_sub (pv 0) pe_int set_list))))))) pss_nil) (pss_cons (ps_if (pt_cmpR op_gt (pe_ix ix_list (pv 0) pe_int (fun _ _ => rfl)) pe_int (nomark _)) (pss_cons (ps_asg (pe_op op_sub (pe_ix ix_list (pv 0) pe_int (fun _ _ => rfl)) pe_int) (pg_sub (pv 0) pe_int set_list)) (pss_cons (ps_set (i := 3) sc_draw.nd rfl (Or.inl rfl) (pe_op op_mod (pe_callTy call_int1 (by rfl) T.z_int (by decide +kernel) (pa_cons (pe_ix ix_list (pv 0) pe_int (fun _ _ => rfl)) pa_nil)) (pv 1))) (pss_cons (ps_asg (pe_op op_fdivW (pe_ix ix_list (pv 0) pe_int (fun _ _ => rfl)) (pv 1)) (pg_sub (pv 0) pe_int set_list)) (pss_one (ps_ret (pv 3)))))) pss_nil) (pss_one (ps_ret (pe_op op_mod (pe_callTy call_int1 (by rfl) T.z_int (by decide +kernel) (pa_cons (pe_call (ok_mixed T) (hr.mono (by decide)) (by rfl) T.g_mixed T.F_mixed.kp T.b_mixed .nil pass0 (pa_cons (pe_ix ix_list (pv 0) pe_int (fun _ _ => rfl)) (pa_cons (pe_ix ix_list (pv 0) pe_int (fun _ _ => rfl)) pa_nil))) pa_nil)) (pv 1))))))), ?_⟩
    refine ⟨_, rfl, b, _, 2, _, rfl, rfl, SqL.of w.hb, rfl, _, _, rfl, rfl, _, rfl, b, _, 2, 2, rfl, rfl, w.hb, rfl, ?_⟩
    have w1 := w.put sd (cn + 1) ps lf bg
    refine ⟨fun σ H1 => ∃ (cl : Option V) (ps lf bg : Int), σ = [some (.ref b), some (.int l), cl, none] ∧ Bg b c ns H0 H1 sd (cn + 1) ps lf bg ∧ 0 ≤ ps, ?_, ?_⟩
    · refine ⟨_, rfl, b, _, 4, _, rfl, rfl, SqL.of w1.hb, rfl, rfl, _, rfl, ?_⟩
      refine ite2 (fun h4 => ?_) (fun h4 => ?_)
      · refine ⟨_, rfl, b, _, 3, _, rfl, rfl, SqL.of w1.hb, rfl, _, rfl, b, _, 0, _, rfl, rfl, SqL.of w1.hb, rfl, c, _, rfl, .inl (SqL.of w1.hc), _, _, rfl, rfl, _, rfl, ?_⟩
        refine ite2 (fun h3 => ?_) (fun h3 => ⟨_, ps, lf, bg, rfl, w1, p0⟩)
        have h3 := of_decide_eq_true h3
        obtain ⟨v, hv, vm⟩ := atI_pos (xs := ns.map V.int) p0 h3
        obtain ⟨n, _, rfl⟩ := List.mem_map.mp vm
        refine ⟨_, rfl, b, _, 0, _, rfl, rfl, SqL.of w1.hb, rfl, _, rfl, b, _, 3, _, rfl, rfl, SqL.of w1.hb, rfl, c, _, _, _, rfl, rfl, SqL.of w1.hc, hv, ?_⟩
        refine ⟨_, rfl, b, _, 3, _, rfl, rfl, SqL.of w1.hb, rfl, _, _, rfl, rfl, _, rfl, b, _, 3, 3, rfl, rfl, w1.hb, rfl, ?_⟩
        have w2 := w1.put sd (cn + 1) (ps + 1) lf bg
        refine ⟨_, rfl, _, _, rfl, rfl, ⟨by decide, by decide, by decide⟩, _, _, rfl, rfl, _, rfl, ?_⟩
        refine ite2 (fun _ => ?_) (fun _ => ?_)
        · refine ⟨_, rfl, .inl ⟨_, rfl, _, _, rfl, rfl, (show (0 : Int) < 2147483647 by decide), _, rfl, b, _, 2, _, rfl, rfl, SqL.of w2.hb, rfl, _, _, rfl, fun v => .inl ⟨_, rfl, _, rfl, _, _, rfl, rfl, l0, ?_⟩⟩⟩
          exact k _ _ (w2.wd (by omega)) (emod_lim l0).1 (emod_lim l0).2
        · refine ⟨_, rfl, b, _, 4, 4, rfl, rfl, w2.hb, rfl, ?_⟩
          have w3 := w2.put sd (cn + 1) (ps + 1) 40 bg
          refine ⟨_, rfl, _, _, rfl, rfl, ⟨by decide, by decide, by decide⟩, _, _, rfl, rfl, _, rfl, b, _, 5, 5, rfl, rfl, w3.hb, rfl, ?_⟩
          exact ⟨_, ps + 1, 40, _, rfl, w3.put sd (cn + 1) (ps + 1) 40 _, by omega⟩
      · exact iteF ⟨_, ps, lf, bg, rfl, w1, p0⟩
    · rintro σ H1 ⟨cl, ps, lf, bg, rfl, w, p0⟩
      refine ⟨_, rfl, b, _, 4, _, rfl, rfl, SqL.of w.hb, rfl, _, _, rfl, rfl, _, rfl, ?_⟩
      refine ite2 (fun _ => ?_) (fun _ => ?_)
      · refine ⟨_, rfl, b, _, 4, _, rfl, rfl, SqL.of w.hb, rfl, _, _, rfl, rfl, _, rfl, b, _, 4, 4, rfl, rfl, w.hb, rfl, ?_⟩
        have w1 := w.put sd (cn + 1) ps (lf - 1) bg
        refine ⟨_, rfl, b, _, 5, _, rfl, rfl, SqL.of w1.hb, rfl, .inl ⟨_, rfl, _, rfl, _, _, rfl, rfl, l0, ?_⟩⟩
        refine ⟨_, rfl, b, _, 5, _, rfl, rfl, SqL.of w1.hb, rfl, _, rfl, _, _, rfl, rfl, ld, _, rfl, b, _, 5, 5, rfl, rfl, w1.hb, rfl, ?_⟩
        exact ⟨_, rfl, k _ _ ((w1.put sd (cn + 1) ps (lf - 1) (bg / l)).wd p0) (emod_lim l0).1 (emod_lim l0).2⟩
      · refine ⟨_, rfl, b, _, 1, _, rfl, rfl, SqL.of w.hb, rfl, _, rfl, b, _, 2, _, rfl, rfl, SqL.of w.hb, rfl, _, _, rfl, fun v => .inl ⟨_, rfl, _, rfl, _, _, rfl, rfl, l0, ?_⟩⟩
        exact k _ _ (w.wd p0) (emod_lim l0).1 (emod_lim l0).2

-- ==== bag
def sp_bag (K : PySem.W.Frag) : Sp := fun vs H Q _ => ∃ (a : Addr) (ns : List Int), vs = [.ref a] ∧ SqL K H a (ns.map V.int) ∧ ∀ (b : Addr) (H' : Hp), Wd b H H' → Q (.ref b) H'
theorem ok_bag (T : Tx K mg ad) : FnOk P w K mg base CX0 1 ad.a_bag ad.d_bag ["_law_script"] (sp_bag K) := by
  refine T.F_bag.ok sc_bag (fun vs H Q E h => ?_) (fun cdv A outer s H vs Q E hr h => ?_)
  · obtain ⟨a, ns, rfl, _⟩ := h; rfl
  · obtain ⟨a, ns, rfl, hS, k⟩ := h
    refine ⟨_, (pss_cons (ps_set (i := 1) sc_bag.nd rfl (Or.inl rfl) pe_int) (pss_cons (ps_for PassesOwn.never rfl (pi_list (pv 0)) (pg_name (i := 2) sc_bag.nd rfl (Or.inl rfl)) (pss_one (ps_set (i := 1) sc_bag.nd rfl (Or.inl rfl) (pe_op op_mod (pe_callTy call_int1 (by rfl) T.z_int (by decide +kernel) (pa_cons (pe_op op_add (pe_op op_mul (pv 1) pe_int) (pv 2)) pa_nil)) pe_int)))) (pss_one (ps_ret (pe_lst (pa_cons (pe_callTy call_list_of (by rfl) T.z_list (by decide +kernel) (pa_cons (pv 0) pa_nil)) (pa_cons (pv 1) (pa_cons pe_int (pa_cons pe_int (pa_cons pe_int (pa_cons pe_int pa_nil))))))))))), ?_⟩
    refine ⟨_, rfl, a, rfl, ⟨_, hS⟩, for_list (K := K) (a := a) (xs := ns.map V.int) (fun i σ H' => H' = H ∧ ∃ (sd : Int) (c : Option V), σ = [some (.ref a), some (.int sd), c]) ⟨rfl, 7, none, rfl⟩ (fun i σ H' _ h => by rw [h.1]; exact hS) ?_ ?_⟩
    · rintro i x σ H' hi ⟨rfl, sd, c, rfl⟩
      obtain ⟨n, _, rfl⟩ := List.mem_map.mp (List.mem_of_getElem? hi)
      refine ⟨_, rfl, _, _, rfl, rfl, .inr ⟨by decide, by decide⟩, _, rfl, _, _, rfl, rfl, .inl ⟨_, rfl, _, _, rfl, rfl, (show (0 : Int) < 2147483647 by decide), ?_⟩⟩
      exact ⟨rfl, _, _, rfl⟩
    · rintro σ H' ⟨rfl, sd, c, rfl⟩
      refine ⟨_, rfl, a, _, rfl, .inl hS, fun c nc => ⟨_, rfl, (by show 6 ≤ sizeLine; decide), fun b nb => ?_⟩⟩
      obtain ⟨e, nb⟩ := upd_none nb
      have s1 : Same H' (upd H' c (.lst (ns.map V.int))) := same_upd nc
      refine k b _ ⟨s1.trans (same_upd (none_upd e nb)), nb, c, ns, sd, 0, 0, 0, 0, nc, ?_, upd_same, by decide⟩
      rw [upd_ne (Ne.symm e), upd_same]

-- ==== word
/-- a text of one letter -/
def sg (c : Nat) : Str := ⟨#[c]⟩
theorem join_signs : ∀ cs : List Nat, (Txt.join ("" : Str) (cs.map sg)).cps.toList = cs := fun cs => by
  rw [TL.join_eq]
  show TL.tl (Str.join ("" : Str) (cs.map sg)) = cs
  rw [TL.tl_join]
  have e : TL.tl ("" : Str) = [] := by decide +kernel
  rw [e, List.map_map]
  induction cs with
  | nil => rfl
  | cons c r ih =>
    cases r with
    | nil => rfl
    | cons d r =>
      show TL.tl (sg c) ++ ([] ++ TL.joinL [] ((d :: r).map (TL.tl ∘ sg))) = c :: d :: r
      rw [ih]
      rfl
theorem len_list (z : Str) : z.length = z.cps.toList.length := by
  show z.cps.size = _
  simp
def sp_word : Sp := fun vs H Q _ => ∃ (b : Addr) (H0 : Hp), vs = [.ref b] ∧ Wd b H0 H ∧ ∀ (x : Str) (H' : Hp), Wd b H0 H' → isName x = true → Q (.str x) H'
theorem ok_word (T : Tx K mg ad) : FnOk P w K mg base CX0 3 ad.a_word ad.d_word ["_law_bag_here"] sp_word := by
  refine T.F_word.ok sc_word (fun vs H Q E h => ?_) (fun cdv A outer s H vs Q E hr h => ?_)
  · obtain ⟨b, H0, rfl, _⟩ := h; rfl
  · obtain ⟨b, H0, rfl, w, k⟩ := h
    refine ⟨_, (pss_cons (ps_set (i := 1) sc_word.nd rfl (Or.inr rfl) pe_str) (pss_cons (ps_set (i := 2) sc_word.nd rfl (Or.inl rfl) (pe_op op_add pe_int (pe_call (ok_draw T) (hr.mono (by decide)) (by rfl) T.g_draw T.F_draw.kp T.b_draw .nil pass0 (pa_cons (pv 0) (pa_cons pe_int pa_nil))))) (pss_cons (ps_setLc (i := 3) (own := [("_law_k", 4)]) (g := gName 4) (by rfl) sc_word.nd rfl rfl (sw_true rfl rfl rfl (by decide +kernel)) (pi_range1 (by rfl) T.z_range (pa_cons (pv 2) pa_nil)) (blkOk_by (own := [("_law_k", 4)]) (N := N_word) (sc := defScope s_word) (by decide +kernel)) (fun _ _ _ _ _ => (pg_name (i := 4) sc_word.nd rfl (Or.inl rfl))) (fun _ _ _ _ _ => pts_nil) (fun _ _ _ _ _ => (pe_ix ix_str (pv 1) (pe_call (ok_draw T) (hr.mono (by decide)) (by rfl) T.g_draw T.F_draw.kp T.b_draw .nil pass0 (pa_cons (pv 0) (pa_cons pe_int pa_nil))) (fun _ _ => rfl)))) (pss_one (ps_ret (pe_join pe_str (pv 3))))))), ?_⟩
    refine ⟨_, rfl, b, H0, 8, rfl, w, by decide, by decide, fun m H1 w1 m0 m1 => ⟨_, _, rfl, rfl, ?_⟩⟩
    refine ⟨_, rfl, 1 + m, rfl, by omega, by omega, fun D nD => ?_⟩
    refine lc_it (walk_range (lo := 0) (n := (1 + m).toNat)) (fun i H' => ∃ cs : List Nat, cs.length = i ∧ (∀ c ∈ cs, c ∈ letters) ∧ Wd b (upd H0 D (.lst (cs.map fun c => .str (sg c)))) H')
      ⟨[], rfl, (fun c h => by cases h), w1.new nD⟩ (fun _ _ _ _ => trivial) ?_ ?_
    · rintro i x H2 H3 hi ⟨cs, hl, hc, w2⟩ ⟨rfl, rfl⟩
      refine ⟨rfl, ?_⟩
      refine ⟨_, rfl, _, rfl, b, _, 26, rfl, w2, by decide, by decide, fun n H4 w4 n0 n1 => ?_⟩
      obtain ⟨c, h1, h2⟩ := atI_pos (xs := letters) n0 (show n < ((26 : Nat) : Int) from n1)
      refine ⟨_, n, c, rfl, rfl, by decide, h1, _, w4.at upd_same, ?_, cs ++ [c], ?_, ?_, ?_⟩
      · rw [List.length_map]; have : sizeLine = 16777216 := by decide
        omega
      · rw [List.length_append, hl]; rfl
      · intro z hz
        rcases List.mem_append.mp hz with q | q
        · exact hc z q
        · rw [List.mem_singleton.mp q]; exact h2
      · have w5 := w4.set (o' := .lst ((cs ++ [c]).map fun c => V.str (sg c)))
        rw [List.map_append] at w5 ⊢
        exact w5
    · rintro H2 ⟨cs, hl, hc, w2⟩
      have e : cs.map (fun c => V.str (sg c)) = (cs.map sg).map V.str := by rw [List.map_map]; rfl
      refine ⟨⟨_, rfl⟩, _, rfl, _, D, cs.map sg, rfl, rfl, .inl (SqL.of (by rw [← e]; exact w2.at upd_same)), ?_, ?_⟩
      · have e1 : ((cs.map sg).map (·.length)).sum = cs.length := by
          clear hl hc w2 e
          induction cs with
          | nil => rfl
          | cons c r ih => simp only [List.map_cons, List.sum_cons, List.length_cons, ih]; show 1 + r.length = _; omega
        rw [e1]
        show cs.length + (cs.map sg).length * 0 ≤ 16777216
        omega
      · refine k _ _ (w2.less (same_upd (w1.free nD))) ?_
        rw [isName_iff, len_list, join_signs]
        exact ⟨by omega, hc⟩
theorem name1 {c : Nat} (h : c ∈ letters) : isName (sg c) = true := by
  rw [isName_iff, len_list]
  refine ⟨⟨by show 1 ≤ 1; decide, by show 1 ≤ 8; decide⟩, fun z hz => ?_⟩
  rw [List.mem_singleton.mp hz]; exact h
theorem tl_add (x y : Str) : (x ++ y).cps.toList = x.cps.toList ++ y.cps.toList := TL.tl_append x y
theorem len_add (x y : Str) : (x ++ y).length = x.length + y.length := by
  rw [len_list, len_list, len_list, tl_add, List.length_append]
theorem name2 {c d : Nat} (h : c ∈ letters) (h' : d ∈ letters) : isName (sg c ++ sg d) = true := by
  rw [isName_iff, len_list, tl_add]
  refine ⟨⟨by show 1 ≤ 2; decide, by show 2 ≤ 8; decide⟩, fun z hz => ?_⟩
  rcases List.mem_append.mp hz with q | q
  · rw [List.mem_singleton.mp q]; exact h
  · rw [List.mem_singleton.mp q]; exact h'
theorem name_len {x : Str} (h : isName x = true) : 1 ≤ x.length ∧ x.length ≤ 8 := (isName_iff.mp h).1
/-- a list comprehension over range(n) whose items are drawn names -/
theorem lc_names {b D : Addr} {H0 H1 : Hp} {lo : Int} {n : Nat} {g : TG} {te : TE} {vs : List Nat} {σ : St} {Qd : Hp → Prop} (w : Wd b H0 H1) (nD : H1 D = none) (hn : n ≤ 100000)
    (hs : ∀ (acc : List V) (i : Nat) (H' : Hp) (R : VK), Wd b (upd H0 D (.lst acc)) H' → (∀ z H4, isName z = true → Wd b (upd H0 D (.lst acc)) H4 → R (.str z) H4) →
      g (.int (lo + i)) (wipe σ vs) H' fun σ2 H2 => wipe σ2 vs = wipe σ vs ∧ tYes σ2 H2 fun b H3 => if b = true then te σ2 H3 R else False)
    (hd : ∀ (xs : List Str) (H' : Hp), xs.length = n → (∀ x ∈ xs, isName x = true) → Wd b (upd H0 D (.lst (xs.map V.str))) H' → Qd H')
    (hg : ∀ i σ H Q, g (.int (lo + i)) σ H Q = Q (σ.set (vs.getD 0 0) (some (.int (lo + i)))) H) :
    ∃ W : Nat → Nat → Hp → Prop, (∃ m, W 0 m (upd H1 D (.lst []))) ∧ ∀ i m H, W i m H →
      ((Itr lo n).stop i H ∧ Qd H) ∨ ((Itr lo n).go i H ∧ ∃ Nx : Hp → Prop, (∀ H', Nx H' → ∃ m', m' < m ∧ W (i + 1) m' H') ∧ ∀ x H', (Itr lo n).yld i H x H' → g x (wipe σ vs) H' fun σ2 H2 => wipe σ2 vs = wipe σ vs ∧ tYes σ2 H2 fun b H3 =>
        if b = true then te σ2 H3 fun y H4 => ∃ acc, H4 D = some (.lst acc) ∧ acc.length < sizeLine ∧ Nx (upd H4 D (.lst (acc ++ [y]))) else Nx H3) := by
  have z : sizeLine = 16777216 := by decide
  refine lc_it (walk_range (lo := lo) (n := n)) (fun i H' => ∃ xs : List Str, xs.length = i ∧ (∀ x ∈ xs, isName x = true) ∧ Wd b (upd H0 D (.lst (xs.map V.str))) H')
    ⟨[], rfl, (fun c h => by cases h), w.new nD⟩ (fun _ _ _ _ => trivial) ?_ ?_
  · rintro i x H2 H3 hi ⟨xs, hl, hx, w2⟩ ⟨rfl, rfl⟩
    have q := hs (xs.map V.str) i H3 (fun y H4 => ∃ acc, H4 D = some (.lst acc) ∧ acc.length < sizeLine ∧ ∃ xs : List Str, xs.length = i + 1 ∧ (∀ x ∈ xs, isName x = true) ∧ Wd b (upd H0 D (.lst (xs.map V.str))) (upd H4 D (.lst (acc ++ [y])))) w2 ?_
    · rw [hg] at q ⊢
      exact ⟨q.1, q.2⟩
    · intro x H4 nx w4
      refine ⟨_, w4.at upd_same, by rw [List.length_map]; omega, xs ++ [x], by rw [List.length_append, hl]; rfl, ?_, ?_⟩
      · intro y hy
        rcases List.mem_append.mp hy with q | q
        · exact hx y q
        · rw [List.mem_singleton.mp q]; exact nx
      · have w5 := w4.set (o' := .lst ((xs ++ [x]).map V.str))
        rw [List.map_append] at w5 ⊢
        exact w5
  · rintro H2 ⟨xs, hl, hx, w2⟩
    exact hd xs H2 hl hx w2

-- ==== short
def sp_short : Sp := sp_word
theorem letter_at {n : Int} (n0 : 0 ≤ n) (n1 : n < 26) : ∃ c, atI ("abcdefghijklmnopqrstuvwxyz" : Str).cps.toList n = some c ∧ c ∈ letters := atI_pos (xs := letters) n0 (show n < ((26 : Nat) : Int) from n1)
theorem ok_short (T : Tx K mg ad) : FnOk P w K mg base CX0 4 ad.a_short ad.d_short ["_law_bag_here"] sp_short := by
  refine T.F_short.ok sc_short (fun vs H Q E h => ?_) (fun cdv A outer s H vs Q E hr h => ?_)
  · obtain ⟨b, H0, rfl, _⟩ := h; rfl
  · obtain ⟨b, H0, rfl, w, k⟩ := h
    refine ⟨_, (pss_cons (ps_set (i := 1) sc_short.nd rfl (Or.inl rfl) pe_str) (pss_cons (ps_set (i := 2) sc_short.nd rfl (Or.inl rfl) (pe_ix ix_str (pv 1) (pe_call (ok_draw T) (hr.mono (by decide)) (by rfl) T.g_draw T.F_draw.kp T.b_draw .nil pass0 (pa_cons (pv 0) (pa_cons pe_int pa_nil))) (fun _ _ => rfl))) (C8.pss_cut (ps_if (pt_cmpR op_eq (pe_call (ok_draw T) (hr.mono (by decide)) (by rfl) T.g_draw T.F_draw.kp T.b_draw .nil pass0 (pa_cons (pv 0) (pa_cons pe_int pa_nil))) pe_int (nomark _)) (pss_one (ps_set (i := 2) sc_short.nd rfl (Or.inl rfl) (pe_op op_add_str (pv 2) (pe_ix ix_str (pv 1) (pe_call (ok_draw T) (hr.mono (by decide)) (by rfl) T.g_draw T.F_draw.kp T.b_draw .nil pass0 (pa_cons (pv 0) (pa_cons pe_int pa_nil))) (fun _ _ => rfl))))) pss_nil) (pss_cons (ps_if (pt_cmpR op_eq (pe_call (ok_draw T) (hr.mono (by decide)) (by rfl) T.g_draw T.F_draw.kp T.b_draw .nil pass0 (pa_cons (pv 0) (pa_cons pe_int pa_nil))) pe_int (nomark _)) (pss_one (ps_set (i := 2) sc_short.nd rfl (Or.inl rfl) (pe_call (ok_word T) (hr.mono (by decide)) (by rfl) T.g_word T.F_word.kp T.b_word .nil pass0 (pa_cons (pv 0) pa_nil)))) pss_nil) (pss_one (ps_ret (pv 2))))))), ?_⟩
    refine ⟨_, rfl, _, rfl, b, H0, 26, rfl, w, by decide, by decide, fun n H1 w1 n0 n1 => ?_⟩
    obtain ⟨c, h1, h2⟩ := letter_at n0 n1
    refine ⟨_, n, c, rfl, rfl, by decide, h1, ?_⟩
    refine ⟨fun σ H' => ∃ x, σ = [some (.ref b), some (.str "abcdefghijklmnopqrstuvwxyz"), some (.str x)] ∧ isName x = true ∧ Wd b H0 H', ?_, ?_⟩
    · refine ⟨_, rfl, b, H0, 2, rfl, w1, by decide, by decide, fun m H2 w2 m0 m1 => ⟨rfl, _, rfl, ?_⟩⟩
      refine ite2 (fun _ => ?_) (fun _ => ⟨_, rfl, name1 h2, w2⟩)
      refine ⟨_, rfl, _, rfl, _, rfl, b, H0, 26, rfl, w2, by decide, by decide, fun n H3 w3 n0 n1 => ?_⟩
      obtain ⟨d, h3, h4⟩ := letter_at n0 n1
      refine ⟨_, n, d, rfl, rfl, by decide, h3, _, _, rfl, rfl, (by show 2 ≤ sizeLine; decide), ?_⟩
      exact ⟨_, rfl, name2 h2 h4, w3⟩
    · rintro σ H2 ⟨x, rfl, hx, w2⟩
      refine ⟨_, rfl, b, H0, 9, rfl, w2, by decide, by decide, fun m H3 w3 m0 m1 => ⟨rfl, _, rfl, ?_⟩⟩
      refine ite2 (fun _ => ?_) (fun _ => ⟨_, rfl, k _ _ w3 hx⟩)
      exact ⟨_, rfl, b, H0, rfl, w3, fun y H4 w4 hy => ⟨_, rfl, k _ _ w4 hy⟩⟩

-- ==== arguments
def sp_arguments : Sp := fun vs H Q _ => ∃ (b : Addr) (H0 : Hp), vs = [.ref b] ∧ Wd b H0 H ∧ ∀ (xs : List Str) (p : Addr) (H' : Hp), xs.length ≤ 3 → (∀ x ∈ xs, isName x = true) → H0 p = none → Wd b (upd H0 p (.tup (xs.map V.str))) H' → Q (.ref p) H'
theorem ok_arguments (T : Tx K mg ad) : FnOk P w K mg base CX0 5 ad.a_arguments ad.d_arguments ["_law_bag_here"] sp_arguments := by
  refine T.F_arguments.ok sc_arguments (fun vs H Q E h => ?_) (fun cdv A outer s H vs Q E hr h => ?_)
  · obtain ⟨b, H0, rfl, _⟩ := h; rfl
  · obtain ⟨b, H0, rfl, w, k⟩ := h
    refine ⟨_, (pss_one (ps_ret (pe_callTy call_tuple_of (by rfl) T.z_tuple (by decide +kernel) (pa_cons (pe_lc (own := [("_law_k", 1)]) (g := gName 1) (by rfl) sc_arguments.nd (pi_range1 (by rfl) T.z_range (pa_cons (pe_call (ok_draw T) (hr.mono (by decide)) (by rfl) T.g_draw T.F_draw.kp T.b_draw .nil pass0 (pa_cons (pv 0) (pa_cons pe_int pa_nil))) pa_nil)) (blkOk_by (own := [("_law_k", 1)]) (N := N_arguments) (sc := defScope s_arguments) (by decide +kernel)) (fun _ _ _ _ _ => (pg_name (i := 1) sc_arguments.nd rfl (Or.inl rfl))) (fun _ _ _ _ _ => pts_nil) (fun _ _ _ _ _ => (pe_call (ok_short T) (hr.mono (by decide)) (by rfl) T.g_short T.F_short.kp T.b_short .nil pass0 (pa_cons (pv 0) pa_nil)))) pa_nil)))), ?_⟩
    refine ⟨_, rfl, b, H0, 4, rfl, w, by decide, by decide, fun m H1 w1 m0 m1 => ⟨m, rfl, by omega, by omega, fun D nD => ?_⟩⟩
    refine lc_names w1 nD (by omega) (fun acc i H' R w2 hR => ⟨rfl, ?_⟩) (fun xs H' hl hx w2 => ?_) (fun _ _ _ _ => rfl)
    · exact ⟨_, rfl, b, _, rfl, w2, fun x H4 w4 hx => hR _ _ hx w4⟩
    · refine ⟨D, _, rfl, .inl ⟨SqL.of (w2.at upd_same), fun p np => ?_⟩⟩
      have nD0 := w1.free nD
      obtain ⟨e, n0⟩ := upd_none (w2.free np)
      refine k xs p _ (by omega) hx n0 (Wd.less ?_ (w2.new np))
      intro q u h
      by_cases eq : q = p
      · rw [eq, upd_same] at h ⊢; exact h
      · rw [upd_ne eq] at h ⊢
        rw [upd_ne (ne_of_none h nD0)]; exact h

-- ==== spoilt
theorem cutS_mem (z : Str) (lo hi : Option Int) : ∀ c ∈ (cutS z lo hi).cps.toList, c ∈ z.cps.toList := fun c hc => by
  unfold cutS at hc
  exact List.mem_of_mem_drop (List.mem_of_mem_take (by simpa using hc))
def sp_spoilt : Sp := fun vs H Q _ => ∃ (b : Addr) (H0 : Hp), vs = [.ref b] ∧ Wd b H0 H ∧ ∀ (x : Str) (H' : Hp), Wd b H0 H' → okd (.str x) = true → x.length ≤ 17 → Q (.str x) H'
theorem ok_of {x : Str} (h : x.length ≤ 100000) (h' : ∀ c ∈ x.cps.toList, c < 1114112) : okd (.str x) = true := by
  show (decide (x.length ≤ 100000) && PyData.strOk x) = true
  rw [Bool.and_eq_true]
  refine ⟨decide_eq_true h, ?_⟩
  unfold PyData.strOk
  rw [← Array.all_toList, List.all_eq_true]
  intro c hc
  exact decide_eq_true (h' c hc)
theorem name_small {x : Str} (h : isName x = true) : ∀ c ∈ x.cps.toList, c < 1114112 := fun c hc => by
  have := letters_ok c ((isName_iff.mp h).2 c hc)
  omega
theorem ok_spoilt (T : Tx K mg ad) : FnOk P w K mg base CX0 4 ad.a_spoilt ad.d_spoilt ["_law_bag_here"] sp_spoilt := by
  refine T.F_spoilt.ok sc_spoilt (fun vs H Q E h => ?_) (fun cdv A outer s H vs Q E hr h => ?_)
  · obtain ⟨b, H0, rfl, _⟩ := h; rfl
  · obtain ⟨b, H0, rfl, w, k⟩ := h
    refine ⟨_, (pss_cons (ps_set (i := 1) sc_spoilt.nd rfl (Or.inl rfl) pe_str) (pss_cons (ps_set (i := 2) sc_spoilt.nd rfl (Or.inl rfl) (pe_call (ok_word T) (hr.mono (by decide)) (by rfl) T.g_word T.F_word.kp T.b_word .nil pass0 (pa_cons (pv 0) pa_nil))) (pss_cons (ps_set (i := 3) sc_spoilt.nd rfl (Or.inl rfl) (pe_call (ok_draw T) (hr.mono (by decide)) (by rfl) T.g_draw T.F_draw.kp T.b_draw .nil pass0 (pa_cons (pv 0) (pa_cons (pe_op op_add (pe_callB call_len_str (by rfl) T.z_len PySem.boot_len (pa_cons (pv 2) pa_nil)) pe_int) pa_nil)))) (pss_one (ps_ret (pe_op op_add_str (pe_op op_add_str (pe_slice sl_str (pv 2) po_none (po_some (pv 3))) (pe_ix ix_str (pv 1) (pe_call (ok_draw T) (hr.mono (by decide)) (by rfl) T.g_draw T.F_draw.kp T.b_draw .nil pass0 (pa_cons (pv 0) (pa_cons pe_int pa_nil))) (fun _ _ => rfl))) (pe_slice sl_str (pv 2) (po_some (pv 3)) po_none))))))), ?_⟩
    refine ⟨_, rfl, b, H0, rfl, w, fun x H1 w1 hx => ?_⟩
    have hl := name_len hx
    have z : sizeLine = 16777216 := by decide
    have hxz : x.length ≤ sizeLine := by omega
    refine ⟨_, rfl, _, rfl, _, rfl, hxz, _, _, rfl, rfl, b, H0, _, rfl, w1, by omega, by omega, fun n H2 w2 n0 n1 => ?_⟩
    refine ⟨_, rfl, _, rfl, n, rfl, x, rfl, hxz, _, rfl, _, rfl, b, H0, 15, rfl, w2, by decide, by decide, fun m H3 w3 m0 m1 => ?_⟩
    obtain ⟨c, h1, h2⟩ := atI_pos (xs := (" ABZ019_-(){}~." : Str).cps.toList) m0 (show m < ((15 : Nat) : Int) from m1)
    have hc : c < 1114112 := by
      have q : ∀ c ∈ (" ABZ019_-(){}~." : Str).cps.toList, c < 1114112 := by decide +kernel
      exact q c h2
    have l1 := cutS_length x none (some n)
    have l2 := cutS_length x (some n) none
    have s1 : (sg c).length = 1 := rfl
    have e1 := len_add (cutS x none (some n)) (sg c)
    refine ⟨_, m, c, rfl, rfl, by decide, h1, _, _, rfl, rfl, (by show (cutS x none (some n)).length + (sg c).length ≤ sizeLine; omega), _, rfl, _, rfl, n, rfl, x, rfl, hxz, _, _, rfl, rfl, ?_, ?_⟩
    · show (cutS x none (some n) ++ sg c).length + (cutS x (some n) none).length ≤ sizeLine
      omega
    · refine k _ _ w3 (ok_of ?_ ?_) ?_
      · show (cutS x none (some n) ++ sg c ++ cutS x (some n) none).length ≤ _
        rw [len_add]; omega
      · show ∀ d ∈ (cutS x none (some n) ++ sg c ++ cutS x (some n) none).cps.toList, _
        intro d hd
        rw [tl_add, tl_add] at hd
        rcases List.mem_append.mp hd with q | q
        · rcases List.mem_append.mp q with q | q
          · exact name_small hx d (cutS_mem _ _ _ d q)
          · rw [List.mem_singleton.mp q]; exact hc
        · exact name_small hx d (cutS_mem _ _ _ d q)
      · show (cutS x none (some n) ++ sg c ++ cutS x (some n) none).length ≤ _
        rw [len_add]; omega

-- ==== any
def sp_any (K : PySem.W.Frag) : Sp := fun vs H Q _ => ∃ (b : Addr) (H0 : Hp), vs = [.ref b] ∧ Wd b H0 H ∧ ∀ (v : V) (d : PyData) (H1 H' : Hp), Same H0 H1 → Wd b H1 H' → Dp K H1 v d → OkD d → Q v H'
theorem okD_str {x : Str} (h : okd (.str x) = true) : OkD (.str x) := ⟨h, Nat.zero_le _⟩
theorem okD_names {xs : List Str} (h : ∀ x ∈ xs, isName x = true) : okdL (xs.map PyData.str) = true ∧ PyData.depthAll (xs.map PyData.str) ≤ 0 := by
  refine ⟨okdL_of fun d hd => ?_, depth_of fun d hd => ?_⟩
  · obtain ⟨x, hx, rfl⟩ := List.mem_map.mp hd
    exact name_ok (h x hx)
  · obtain ⟨x, hx, rfl⟩ := List.mem_map.mp hd
    exact Nat.zero_le _
theorem okD_lst {ds : List PyData} (h : okdL ds = true) (h' : PyData.depthAll ds ≤ 50) : OkD (.list ds) := ⟨h, by show PyData.depthAll ds + 1 ≤ 60; omega⟩
theorem okD_tup {ds : List PyData} (h : okdL ds = true) (h' : PyData.depthAll ds ≤ 50) : OkD (.tuple ds) := ⟨h, by show PyData.depthAll ds + 1 ≤ 60; omega⟩
theorem okdL2 {d e : PyData} (h : okd d = true) (h' : okd e = true) : okdL [d, e] = true := by
  unfold okdL okdL okdL
  rw [h, h']; rfl
/-- the items of the odd things, laid at t (a tuple) and l (a list) -/
theorem odd_dp {H : Hp} {t l : Addr} (ht : H t = some (.tup [])) (hl : H l = some (.lst [])) {vs : List V} (hv : ∀ v ∈ vs, v ∈ ([.str "", .non, .bl true, .bl false, .int 0, .int 1, .ref t, .ref l] : List V)) {v : V} (hm : v ∈ vs) :
    ∃ d, Dp K H v d ∧ okd d = true ∧ d.depth ≤ 1 := by
  have := hv v hm
  simp only [List.mem_cons, List.not_mem_nil, or_false] at this
  rcases this with rfl | rfl | rfl | rfl | rfl | rfl | rfl | rfl
  · exact ⟨_, .str _, by decide +kernel, by decide⟩
  · exact ⟨_, .non, rfl, by decide⟩
  · exact ⟨_, .bl _, rfl, by decide⟩
  · exact ⟨_, .bl _, rfl, by decide⟩
  · exact ⟨_, .int _, rfl, by decide⟩
  · exact ⟨_, .int _, rfl, by decide⟩
  · exact ⟨_, .tup (SqT.of ht) .nil, rfl, by decide⟩
  · exact ⟨_, .lst (SqL.of hl) .nil, rfl, by decide⟩
theorem ok_any (T : Tx K mg ad) : FnOk P w K mg base CX0 6 ad.a_any ad.d_any ["_law_bag_here"] (sp_any K) := by
  refine T.F_any.ok sc_any (fun vs H Q E h => ?_) (fun cdv A outer s H vs Q E hr h => ?_)
  · obtain ⟨b, H0, rfl, _⟩ := h; rfl
  · obtain ⟨b, H0, rfl, w, k⟩ := h
    have z : sizeLine = 16777216 := by decide
    refine ⟨_, (pss_cons (ps_set (i := 1) sc_any.nd rfl (Or.inl rfl) (pe_call (ok_draw T) (hr.mono (by decide)) (by rfl) T.g_draw T.F_draw.kp T.b_draw .nil pass0 (pa_cons (pv 0) (pa_cons pe_int pa_nil)))) (pss_cons (ps_if (pt_cmpR op_lt (pv 1) pe_int (nomark _)) (pss_one (ps_ret (pe_call (ok_word T) (hr.mono (by decide)) (by rfl) T.g_word T.F_word.kp T.b_word .nil pass0 (pa_cons (pv 0) pa_nil)))) pss_nil) (pss_cons (ps_if (pt_cmpR op_eq (pv 1) pe_int (nomark _)) (pss_one (ps_ret (pe_call (ok_spoilt T) (hr.mono (by decide)) (by rfl) T.g_spoilt T.F_spoilt.kp T.b_spoilt .nil pass0 (pa_cons (pv 0) pa_nil)))) pss_nil) (pss_cons (ps_if (pt_cmpR op_eq (pv 1) pe_int (nomark _)) (pss_one (ps_ret (pe_op op_add_str (pe_call (ok_word T) (hr.mono (by decide)) (by rfl) T.g_word T.F_word.kp T.b_word .nil pass0 (pa_cons (pv 0) pa_nil)) (pe_call (ok_word T) (hr.mono (by decide)) (by rfl) T.g_word T.F_word.kp T.b_word .nil pass0 (pa_cons (pv 0) pa_nil))))) pss_nil) (pss_cons (ps_if (pt_cmpR op_eq (pv 1) pe_int (nomark _)) (pss_one (ps_ret (pe_ix ix_tup (pe_tup (pa_cons pe_str (pa_cons pe_non (pa_cons pe_bl (pa_cons pe_bl (pa_cons pe_int (pa_cons pe_int (pa_cons (pe_tup pa_nil) (pa_cons (pe_lst pa_nil) pa_nil))))))))) (pe_call (ok_draw T) (hr.mono (by decide)) (by rfl) T.g_draw T.F_draw.kp T.b_draw .nil pass0 (pa_cons (pv 0) (pa_cons pe_int pa_nil))) (fun _ _ => rfl)))) pss_nil) (pss_cons (ps_if (pt_cmpR op_eq (pv 1) pe_int (nomark _)) (pss_one (ps_ret (pe_op op_sub (pe_call (ok_draw T) (hr.mono (by decide)) (by rfl) T.g_draw T.F_draw.kp T.b_draw .nil pass0 (pa_cons (pv 0) (pa_cons (pe_op op_pow pe_int pe_int) pa_nil))) (pe_op op_pow pe_int pe_int)))) pss_nil) (pss_cons (ps_if (pt_cmpR op_eq (pv 1) pe_int (nomark _)) (pss_one (ps_ret (pe_lc (own := [("_law_k", 2)]) (g := gName 2) (by rfl) sc_any.nd (pi_range1 (by rfl) T.z_range (pa_cons (pe_call (ok_draw T) (hr.mono (by decide)) (by rfl) T.g_draw T.F_draw.kp T.b_draw .nil pass0 (pa_cons (pv 0) (pa_cons pe_int pa_nil))) pa_nil)) (blkOk_by (own := [("_law_k", 2)]) (N := N_any) (sc := defScope s_any) (by decide +kernel)) (fun _ _ _ _ _ => (pg_name (i := 2) sc_any.nd rfl (Or.inl rfl))) (fun _ _ _ _ _ => pts_nil) (fun _ _ _ _ _ => (pe_call (ok_word T) (hr.mono (by decide)) (by rfl) T.g_word T.F_word.kp T.b_word .nil pass0 (pa_cons (pv 0) pa_nil)))))) pss_nil) (pss_cons (ps_if (pt_cmpR op_eq (pv 1) pe_int (nomark _)) (pss_one (ps_ret (pe_tup (pa_cons (pe_call (ok_word T) (hr.mono (by decide)) (by rfl) T.g_word T.F_word.kp T.b_word .nil pass0 (pa_cons (pv 0) pa_nil)) (pa_cons (pe_call (ok_word T) (hr.mono (by decide)) (by rfl) T.g_word T.F_word.kp T.b_word .nil pass0 (pa_cons (pv 0) pa_nil)) (pa_cons (pe_call (ok_word T) (hr.mono (by decide)) (by rfl) T.g_word T.F_word.kp T.b_word .nil pass0 (pa_cons (pv 0) pa_nil)) (pa_cons (pe_call (ok_word T) (hr.mono (by decide)) (by rfl) T.g_word T.F_word.kp T.b_word .nil pass0 (pa_cons (pv 0) pa_nil)) pa_nil))))))) pss_nil) (pss_cons (ps_if (pt_cmpR op_eq (pv 1) pe_int (nomark _)) (pss_one (ps_ret (pe_tup (pa_cons (pe_call (ok_word T) (hr.mono (by decide)) (by rfl) T.g_word T.F_word.kp T.b_word .nil pass0 (pa_cons (pv 0) pa_nil)) (pa_cons (pe_call (ok_spoilt T) (hr.mono (by decide)) (by rfl) T.g_spoilt T.F_spoilt.kp T.b_spoilt .nil pass0 (pa_cons (pv 0) pa_nil)) pa_nil))))) pss_nil) (pss_cons (ps_if (pt_cmpR op_eq (pv 1) pe_int (nomark _)) (pss_one (ps_ret (pe_tup (pa_cons (pe_call (ok_word T) (hr.mono (by decide)) (by rfl) T.g_word T.F_word.kp T.b_word .nil pass0 (pa_cons (pv 0) pa_nil)) (pa_cons (pe_ix ix_tup (pe_tup (pa_cons pe_str (pa_cons pe_non (pa_cons pe_bl (pa_cons pe_int (pa_cons (pe_tup pa_nil) (pa_cons (pe_lst pa_nil) pa_nil))))))) (pe_call (ok_draw T) (hr.mono (by decide)) (by rfl) T.g_draw T.F_draw.kp T.b_draw .nil pass0 (pa_cons (pv 0) (pa_cons pe_int pa_nil))) (fun _ _ => rfl)) pa_nil))))) pss_nil) (pss_cons (ps_if (pt_cmpR op_eq (pv 1) pe_int (nomark _)) (pss_one (ps_ret (pe_tup (pa_cons (pe_tup (pa_cons (pe_call (ok_word T) (hr.mono (by decide)) (by rfl) T.g_word T.F_word.kp T.b_word .nil pass0 (pa_cons (pv 0) pa_nil)) pa_nil)) pa_nil)))) pss_nil) (pss_one (ps_ret (pe_call (ok_arguments T) (hr.mono (by decide)) (by rfl) T.g_arguments T.F_arguments.kp T.b_arguments .nil pass0 (pa_cons (pv 0) pa_nil))))))))))))))), ?_⟩
    refine ⟨_, rfl, b, H0, 14, rfl, w, by decide, by decide, fun kd H1 w1 k0 k1 => ?_⟩
    -- a word
    refine ⟨_, rfl, _, _, rfl, rfl, _, rfl, ?_⟩
    refine ite2 (fun _ => ?_) (fun _ => ?_)
    · exact ⟨_, rfl, b, H0, rfl, w1, fun x H2 w2 hx => k _ _ _ _ (Same.refl _) w2 (.str x) (okD_str (name_ok hx))⟩
    -- a spoilt one
    refine ⟨_, rfl, rfl, _, rfl, ?_⟩
    refine ite2 (fun _ => ?_) (fun _ => ?_)
    · exact ⟨_, rfl, b, H0, rfl, w1, fun x H2 w2 hx _ => k _ _ _ _ (Same.refl _) w2 (.str x) (okD_str hx)⟩
    -- two words
    refine ⟨_, rfl, rfl, _, rfl, ?_⟩
    refine ite2 (fun _ => ?_) (fun _ => ?_)
    · refine ⟨_, rfl, b, H0, rfl, w1, fun x H2 w2 hx => ⟨_, rfl, b, H0, rfl, w2, fun y H3 w3 hy => ⟨_, _, rfl, rfl, ?_, ?_⟩⟩⟩
      · have := name_len hx; have := name_len hy; omega
      · refine k _ _ _ _ (Same.refl _) w3 (.str _) (okD_str (ok_of ?_ ?_))
        · have := name_len hx; have := name_len hy; rw [len_add]; omega
        · intro c hc
          rw [tl_add] at hc
          rcases List.mem_append.mp hc with q | q
          · exact name_small hx c q
          · exact name_small hy c q
    -- an odd thing
    refine ⟨_, rfl, rfl, _, rfl, ?_⟩
    refine ite2 (fun _ => ?_) (fun _ => ?_)
    · refine ⟨Nat.zero_le _, fun t nt => ⟨Nat.zero_le _, fun l nl => ⟨(by show 8 ≤ sizeLine; decide), fun p np => ?_⟩⟩⟩
      have wt := w1.new (o := .tup []) nt
      have wl := wt.new (o := .lst []) nl
      have wp := wl.new (o := .tup [.str "", .non, .bl true, .bl false, .int 0, .int 1, .ref t, .ref l]) np
      have s1 : Same H0 (upd H0 t (.tup [])) := same_upd (w1.free nt)
      have s2 := s1.trans (same_upd (o := .lst []) (wt.free nl))
      have s3 := same_upd (o := .tup [.str "", .non, .bl true, .bl false, .int 0, .int 1, .ref t, .ref l]) (wl.free np)
      refine ⟨_, rfl, b, _, 8, rfl, wp, by decide, by decide, fun n H2 w2 n0 n1 => ?_⟩
      obtain ⟨v, h1, h2⟩ := atI_pos (xs := [V.str "", .non, .bl true, .bl false, .int 0, .int 1, .ref t, .ref l]) n0 (show n < ((8 : Nat) : Int) from n1)
      obtain ⟨d, hd, od, dd⟩ := odd_dp (K := K) (H := upd (upd (upd H0 t (.tup [])) l (.lst [])) p (.tup [.str "", .non, .bl true, .bl false, .int 0, .int 1, .ref t, .ref l]))
        (s3 _ _ (same_upd (wt.free nl) _ _ upd_same)) (s3 _ _ upd_same) (fun v hv => hv) h2
      exact ⟨p, _, n, v, rfl, rfl, SqT.of (w2.at upd_same), h1, k _ _ _ _ (s2.trans s3) w2 hd ⟨od, by omega⟩⟩
    -- a number
    refine ⟨_, rfl, rfl, _, rfl, ?_⟩
    refine ite2 (fun _ => ?_) (fun _ => ?_)
    · refine ⟨_, rfl, _, _, rfl, rfl, ⟨by decide, by decide, by decide⟩, b, H0, _, rfl, w1, by decide, by decide, fun n H2 w2 _ _ => ⟨_, _, rfl, rfl, ⟨by decide, by decide, by decide⟩, _, _, rfl, rfl, ?_⟩⟩
      exact k _ _ _ _ (Same.refl _) w2 (.int _) ⟨rfl, Nat.zero_le _⟩
    -- a list of words
    refine ⟨_, rfl, rfl, _, rfl, ?_⟩
    refine ite2 (fun _ => ?_) (fun _ => ?_)
    · refine ⟨_, rfl, b, H0, 3, rfl, w1, by decide, by decide, fun m H2 w2 m0 m1 => ⟨m, rfl, by omega, by omega, fun D nD => ?_⟩⟩
      refine lc_names w2 nD (by omega) (fun acc i H' R w3 hR => ⟨rfl, ?_⟩) (fun xs H' hl hx w3 => ?_) (fun _ _ _ _ => rfl)
      · exact ⟨_, rfl, b, _, rfl, w3, fun x H4 w4 hx => hR _ _ hx w4⟩
      · obtain ⟨o1, o2⟩ := okD_names hx
        exact k _ _ _ _ (same_upd (w2.free nD)) w3 (.lst (SqL.of upd_same) (DpAll.strs xs)) (okD_lst o1 (by omega))
    -- four words
    refine ⟨_, rfl, rfl, _, rfl, ?_⟩
    refine ite2 (fun _ => ?_) (fun _ => ?_)
    · refine ⟨_, rfl, b, H0, rfl, w1, fun x1 H2 w2 h1 => ⟨_, rfl, b, H0, rfl, w2, fun x2 H3 w3 h2 => ⟨_, rfl, b, H0, rfl, w3, fun x3 H4 w4 h3 => ⟨_, rfl, b, H0, rfl, w4, fun x4 H5 w5 h4 => ⟨(by show 4 ≤ sizeLine; decide), fun p np => ?_⟩⟩⟩⟩⟩
      obtain ⟨o1, o2⟩ := okD_names (xs := [x1, x2, x3, x4]) (fun x hx => by
        simp only [List.mem_cons, List.not_mem_nil, or_false] at hx
        rcases hx with rfl | rfl | rfl | rfl <;> assumption)
      exact k _ _ _ _ (same_upd (w5.free np)) (w5.new np) (.tup (SqT.of upd_same) (DpAll.strs [x1, x2, x3, x4])) (okD_tup o1 (by omega))
    -- a word and a spoilt one
    refine ⟨_, rfl, rfl, _, rfl, ?_⟩
    refine ite2 (fun _ => ?_) (fun _ => ?_)
    · refine ⟨_, rfl, b, H0, rfl, w1, fun x H2 w2 hx => ⟨_, rfl, b, H0, rfl, w2, fun y H3 w3 hy _ => ⟨(by show 2 ≤ sizeLine; decide), fun p np => ?_⟩⟩⟩
      exact k _ _ _ _ (same_upd (w3.free np)) (w3.new np) (.tup (SqT.of upd_same) (DpAll.strs [x, y])) (okD_tup (okdL2 (name_ok hx) hy) (show 0 ≤ 50 by decide))
    -- a word and an odd thing
    refine ⟨_, rfl, rfl, _, rfl, ?_⟩
    refine ite2 (fun _ => ?_) (fun _ => ?_)
    · refine ⟨_, rfl, b, H0, rfl, w1, fun x H2 w2 hx => ⟨Nat.zero_le _, fun t nt => ⟨Nat.zero_le _, fun l nl => ⟨(by show 6 ≤ sizeLine; decide), fun p np => ?_⟩⟩⟩⟩
      have wt := w2.new (o := .tup []) nt
      have wl := wt.new (o := .lst []) nl
      have wp := wl.new (o := .tup [.str "", .non, .bl true, .int 1, .ref t, .ref l]) np
      have s1 : Same H0 (upd H0 t (.tup [])) := same_upd (w2.free nt)
      have s2 := s1.trans (same_upd (o := .lst []) (wt.free nl))
      have s3 := same_upd (o := .tup [.str "", .non, .bl true, .int 1, .ref t, .ref l]) (wl.free np)
      refine ⟨_, rfl, b, _, 6, rfl, wp, by decide, by decide, fun n H3 w3 n0 n1 => ?_⟩
      obtain ⟨v, h1, h2⟩ := atI_pos (xs := [V.str "", .non, .bl true, .int 1, .ref t, .ref l]) n0 (show n < ((6 : Nat) : Int) from n1)
      obtain ⟨d, hd, od, dd⟩ := odd_dp (K := K) (H := upd (upd (upd H0 t (.tup [])) l (.lst [])) p (.tup [.str "", .non, .bl true, .int 1, .ref t, .ref l]))
        (s3 _ _ (same_upd (wt.free nl) _ _ upd_same)) (s3 _ _ upd_same) (vs := [V.str "", .non, .bl true, .int 1, .ref t, .ref l]) (fun v hv => by
          simp only [List.mem_cons, List.not_mem_nil, or_false] at hv ⊢
          rcases hv with h | h | h | h | h | h <;> simp [h]) h2
      refine ⟨p, _, n, v, rfl, rfl, SqT.of (w3.at upd_same), h1, (by show 2 ≤ sizeLine; decide), fun r nr => ?_⟩
      have s4 := same_upd (o := .tup [.str x, v]) (w3.free nr)
      refine k _ (.tuple [.str x, d]) _ _ ((s2.trans s3).trans s4) (w3.new nr) (.tup (SqT.of upd_same) (.cons (.str x) (.cons (Dp.mono s4 hd) .nil))) ⟨okdL2 (name_ok hx) od, ?_⟩
      show max 0 (max d.depth 0) + 1 ≤ 60
      omega
    -- a word, deeper
    refine ⟨_, rfl, rfl, _, rfl, ?_⟩
    refine ite2 (fun _ => ?_) (fun _ => ?_)
    · refine ⟨_, rfl, b, H0, rfl, w1, fun x H2 w2 hx => ⟨(by show 1 ≤ sizeLine; decide), fun p np => ⟨(by show 1 ≤ sizeLine; decide), fun q nq => ?_⟩⟩⟩
      have wp := w2.new (o := .tup [.str x]) np
      have s1 : Same H0 (upd H0 p (.tup [.str x])) := same_upd (w2.free np)
      have s2 := same_upd (o := .tup [.ref p]) (wp.free nq)
      refine k _ (.tuple [.tuple [.str x]]) _ _ (s1.trans s2) (wp.new nq) (.tup (SqT.of upd_same) (.cons (.tup (SqT.of (s2 _ _ upd_same)) (.cons (.str x) .nil)) .nil)) ⟨?_, (show 2 ≤ 60 by decide)⟩
      show okdL [.tuple [.str x]] = true
      unfold okdL okdL okd okdL okdL
      rw [name_ok hx]; rfl
    -- arguments
    · refine ⟨_, rfl, b, H0, rfl, w1, fun xs p H2 hl hx np w2 => ?_⟩
      obtain ⟨o1, o2⟩ := okD_names hx
      exact k _ _ _ _ (same_upd np) w2 (.tup (SqT.of upd_same) (DpAll.strs xs)) (okD_tup o1 (by omega))

-- ==== is_name
def isNameD : PyData → Bool
  | .str z => isName z
  | _ => false
def sp_is_name (K : PySem.W.Frag) : Sp := fun vs H Q _ => ∃ (x : V) (d : PyData), vs = [x] ∧ Dp K H x d ∧ okd d = true ∧ Q (.bl (isNameD d)) H
theorem okd_len {z : Str} (h : okd (.str z) = true) : z.length ≤ 100000 := by
  have h : (decide (z.length ≤ 100000) && PyData.strOk z) = true := h
  rw [Bool.and_eq_true] at h
  exact of_decide_eq_true h.1
theorem isName_bad {z : Str} {c : Nat} {i : Nat} (h : z.cps[i]? = some c) (h' : c ∉ letters) : isName z = false := by
  cases e : isName z with
  | false => rfl
  | true => exact absurd ((isName_iff.mp e).2 c (by simpa using Array.mem_of_getElem? h)) h'
theorem ok_is_name (T : Tx K mg ad) : FnOk P w K mg base CX0 1 ad.a_is_name ad.d_is_name ["thing"] (sp_is_name K) := by
  refine T.F_is_name.ok sc_is_name (fun vs H Q E h => ?_) (fun cdv A outer s H vs Q E hr h => ?_)
  · obtain ⟨x, d, rfl, _⟩ := h; rfl
  · obtain ⟨x, d, rfl, hd, od, k⟩ := h
    refine ⟨_, (pss_cons (ps_if (pt_not (pt_val (pe_callB call_isi (by rfl) T.z_isinstance (by decide +kernel) (pa_cons (pv 0) (pa_cons (pe_bltn (v := .ty "str") (by rfl) T.z_str (by decide +kernel) rfl) pa_nil))))) (pss_one (ps_ret pe_bl)) pss_nil) (pss_cons (ps_if (pt_not (pt_chain op_le op_le pe_int (pe_callB call_len_str (by rfl) T.z_len PySem.boot_len (pa_cons (pv 0) pa_nil)) (pe_glob (v := .int 8) (by rfl) T.c_MOST_LETTERS ⟨_, rfl⟩))) (pss_one (ps_ret pe_bl)) pss_nil) (pss_cons (ps_for PassesOwn.never rfl (pi_str (pv 0)) (pg_name (i := 1) sc_is_name.nd rfl (Or.inl rfl)) (pss_one (ps_if (pt_cmpR op_notIn_sign (pv 1) (pe_glob (v := .str "abcdefghijklmnopqrstuvwxyz") (by rfl) T.c_LETTERS ⟨_, rfl⟩) (by rfl)) (pss_one (ps_ret pe_bl)) pss_nil))) (pss_one (ps_ret pe_bl))))), ?_⟩
    refine ⟨_, rfl, _, _, _, _, _, rfl, .ty _, tyx hd, kit_ty (kit_str d), _, rfl, ?_⟩
    refine ite2 (fun h => ?_) (fun h => ?_)
    · have e : isNameD d = false := by cases d <;> first | rfl | cases h
      rw [e] at k; exact k
    · cases hd with
      | str z =>
        have hl := okd_len od
        have hz : z.length ≤ sizeLine := Nat.le_trans hl (by decide)
        refine ⟨_, rfl, z, rfl, hz, _, _, rfl, rfl, _, rfl, ?_⟩
        have short : ¬ (1 ≤ z.length ∧ z.length ≤ 8) → Q (.bl false) H := fun hn => by
          have e : isNameD (.str z) = false := by
            cases e : isName z with
            | false => exact e
            | true => exact absurd (name_len e) hn
          rw [e] at k; exact k
        refine ite2 (fun h1 => ?_) (fun h1 => ?_)
        · have h1 : (1 : Int) ≤ z.length := of_decide_eq_true h1
          refine ⟨_, _, rfl, rfl, _, rfl, ?_⟩
          refine ite2 (fun h2 => ?_) (fun h2 => ?_)
          · refine short fun hn => ?_
            have h3 : decide ((z.length : Int) ≤ 8) = true := decide_eq_true (by omega)
            rw [h3] at h2; cases h2
          · have h2 : (z.length : Int) ≤ 8 := by
              have q : ¬ (!decide ((z.length : Int) ≤ 8)) = true := h2
              simpa using q
            refine ⟨_, rfl, z, rfl, for_it (walk_str (z := z)) (fun i σ H' => H' = H ∧ (∃ c, σ = [some (.str z), c]) ∧ ∀ j c, j < i → z.cps[j]? = some c → c ∈ letters) ⟨rfl, ⟨none, rfl⟩, fun j c hj => absurd hj (Nat.not_lt_zero _)⟩ (fun _ _ _ _ _ => trivial) ?_ ?_⟩
            · rintro i x σ H1 H2 hi ⟨rfl, ⟨c0, rfl⟩, hj⟩ ⟨rfl, c, hc, rfl⟩
              refine ⟨_, rfl, c, _, rfl, rfl, _, rfl, ?_⟩
              refine ite2 (fun hn => ?_) (fun hn => ?_)
              · have hn : c ∉ letters := by
                  have q : (!decide (c ∈ letters)) = true := hn
                  simpa using q
                have e : isNameD (.str z) = false := isName_bad hc hn
                rw [e] at k; exact k
              · refine ⟨rfl, ⟨_, rfl⟩, fun j c' hlt hc' => ?_⟩
                by_cases ej : j = i
                · subst ej
                  rw [hc] at hc'; cases hc'
                  have q : ¬ (!decide (c ∈ letters)) = true := hn
                  simpa using q
                · exact hj j c' (by omega) hc'
            · rintro σ H1 ⟨rfl, ⟨c0, rfl⟩, hj⟩
              have e : isNameD (.str z) = true := by
                show isName z = true
                rw [isName_iff]
                refine ⟨by omega, fun c hc => ?_⟩
                obtain ⟨j, hj1, hj2⟩ := List.mem_iff_getElem.mp hc
                exact hj j c (by simpa using hj1) (by rw [← hj2]; simp at hj1; simp [hj1])
              rw [e] at k; exact k
        · refine ⟨_, rfl, iteT (short fun hn => h1 (decide_eq_true (by omega)))⟩
      | _ => exact absurd rfl h

-- ==== is_arguments
def isArgsD : PyData → Bool
  | .tuple ds => decide (ds.length ≤ 3) && ds.all isNameD
  | _ => false
def sp_is_arguments (K : PySem.W.Frag) : Sp := fun vs H Q _ => ∃ (x : V) (d : PyData), vs = [x] ∧ Dp K H x d ∧ okd d = true ∧ Q (.bl (isArgsD d)) H
theorem ok_is_arguments (T : Tx K mg ad) : FnOk P w K mg base CX0 2 ad.a_is_arguments ad.d_is_arguments ["thing"] (sp_is_arguments K) := by
  refine T.F_is_arguments.ok sc_is_arguments (fun vs H Q E h => ?_) (fun cdv A outer s H vs Q E hr h => ?_)
  · obtain ⟨x, d, rfl, _⟩ := h; rfl
  · obtain ⟨x, d, rfl, hd, od, k⟩ := h
    refine ⟨_, (pss_cons (ps_if (PW.pt (pw_or (pt_not (pt_val (pe_callB call_isi (by rfl) T.z_isinstance (by decide +kernel) (pa_cons (pv 0) (pa_cons (pe_bltn (v := .ty "tuple") (by rfl) T.z_tuple (by decide +kernel) rfl) pa_nil))))) (pw_or1 (pt_cmpR op_gt (pe_callB call_len_seq (by rfl) T.z_len PySem.boot_len (pa_cons (pv 0) pa_nil)) (pe_glob (v := .int 3) (by rfl) T.c_MOST_ARGUMENTS ⟨_, rfl⟩) (nomark _))))) (pss_one (ps_ret pe_bl)) pss_nil) (pss_cons (ps_for PassesOwn.never rfl (pi_tup (pv 0)) (pg_name (i := 1) sc_is_arguments.nd rfl (Or.inl rfl)) (pss_one (ps_if (pt_not (pt_val (pe_call (ok_is_name T) (hr.mono (by decide)) (by rfl) T.g_is_name T.F_is_name.kp T.b_is_name .nil pass0 (pa_cons (pv 1) pa_nil)))) (pss_one (ps_ret pe_bl)) pss_nil))) (pss_one (ps_ret pe_bl)))), ?_⟩
    refine ⟨_, rfl, _, _, _, _, _, rfl, .ty _, tyx hd, kit_ty (kit_tuple d), _, rfl, ?_⟩
    refine ite2 (fun h => ?_) (fun h => ?_)
    · have e : isArgsD d = false := by cases d <;> first | rfl | cases h
      rw [e] at k; exact iteT k
    · cases hd with
      | @tup a xs ds hs ha =>
        have el := DpAll.len ha
        refine ⟨_, rfl, a, _, rfl, .inr hs, _, _, rfl, rfl, _, rfl, ?_⟩
        refine ite2 (fun h1 => ?_) (fun h1 => ?_)
        · have h1 : (3 : Int) < xs.length := of_decide_eq_true h1
          have e : isArgsD (.tuple ds) = false := by
            show (decide (ds.length ≤ 3) && _) = false
            rw [decide_eq_false (by omega)]; rfl
          rw [e] at k; exact k
        · have h1 : ¬ (3 : Int) < xs.length := fun q => h1 (decide_eq_true q)
          refine ⟨_, rfl, a, rfl, ⟨_, hs⟩, for_it (walk_tup (K := K) (a := a) (xs := xs)) (fun i σ H' => H' = H ∧ (∃ c, σ = [some (.ref a), c]) ∧ ∀ j d, j < i → ds[j]? = some d → isNameD d = true) ⟨rfl, ⟨none, rfl⟩, fun j c hj => absurd hj (Nat.not_lt_zero _)⟩ (fun _ _ _ _ h => by rw [h.1]; exact hs) ?_ ?_⟩
          · rintro i x σ H1 H2 hi ⟨rfl, ⟨c0, rfl⟩, hj⟩ ⟨rfl, hx⟩
            obtain ⟨d, h2, h3⟩ := DpAll.get ha hx
            refine ⟨_, rfl, x, d, rfl, h3, okdL_mem od d (List.mem_of_getElem? h2), _, rfl, ?_⟩
            refine ite2 (fun hn => ?_) (fun hn => ?_)
            · have hn : isNameD d = false := by
                have q : (!isNameD d) = true := hn
                simpa using q
              have e : isArgsD (.tuple ds) = false := by
                cases e : isArgsD (.tuple ds) with
                | false => rfl
                | true =>
                  have e : (decide (ds.length ≤ 3) && ds.all isNameD) = true := e
                  rw [Bool.and_eq_true, List.all_eq_true] at e
                  rw [e.2 d (List.mem_of_getElem? h2)] at hn
                  cases hn
              rw [e] at k; exact k
            · refine ⟨rfl, ⟨_, rfl⟩, fun j d' hlt hd' => ?_⟩
              by_cases ej : j = i
              · subst ej
                rw [h2] at hd'; cases hd'
                have q : ¬ (!isNameD d) = true := hn
                simpa using q
              · exact hj j d' (by omega) hd'
          · rintro σ H1 ⟨rfl, ⟨c0, rfl⟩, hj⟩
            have e : isArgsD (.tuple ds) = true := by
              show (decide (ds.length ≤ 3) && ds.all isNameD) = true
              rw [Bool.and_eq_true, List.all_eq_true]
              refine ⟨decide_eq_true (by omega), fun d hd => ?_⟩
              obtain ⟨j, hj1, hj2⟩ := List.mem_iff_getElem.mp hd
              exact hj j d (by omega) (by rw [← hj2]; simp)
            rw [e] at k; exact k
      | _ => exact absurd rfl h

-- ==== named
theorem filter_len {α : Type} {p : α → Bool} {xs : List α} : ((xs.filter p).length = 0) ↔ ∀ x ∈ xs, p x = false := by
  rw [List.length_eq_zero_iff, List.filter_eq_nil_iff]
  exact ⟨fun h x hx => by simpa using h x hx, fun h x hx => by simp [h x hx]⟩
theorem take_succ_of {α : Type} {xs : List α} {i : Nat} {x : α} (h : xs[i]? = some x) : xs.take (i + 1) = xs.take i ++ [x] := by
  rw [List.take_succ, h]; rfl
def sp_named (K : PySem.W.Frag) : Sp := fun vs H Q _ => ∃ (x : V) (d : PyData), vs = [x] ∧ Dp K H x d ∧ okd d = true ∧ ∀ H', Same H H' → Q (.bl (isNameD d)) H'
theorem ok_named (T : Tx K mg ad) : FnOk P w K mg base CX0 1 ad.a_named ad.d_named ["_law_thing"] (sp_named K) := by
  refine T.F_named.ok sc_named (fun vs H Q E h => ?_) (fun cdv A outer s H vs Q E hr h => ?_)
  · obtain ⟨x, d, rfl, _⟩ := h; rfl
  · obtain ⟨x, d, rfl, hd, od, k⟩ := h
    refine ⟨_, (pss_cons (ps_if (PW.pt (pw_or (pt_not (pt_val (pe_callB call_isi (by rfl) T.z_isinstance (by decide +kernel) (pa_cons (pv 0) (pa_cons (pe_bltn (v := .ty "str") (by rfl) T.z_str (by decide +kernel) rfl) pa_nil))))) (pw_or (pt_cmpR op_lt (pe_callB call_len_str (by rfl) T.z_len PySem.boot_len (pa_cons (pv 0) pa_nil)) pe_int (nomark _)) (pw_or1 (pt_cmpR op_gt (pe_callB call_len_str (by rfl) T.z_len PySem.boot_len (pa_cons (pv 0) pa_nil)) pe_int (nomark _)))))) (pss_one (ps_ret pe_bl)) pss_nil) (pss_one (ps_ret (pe_cmpR op_eq (pe_callB call_len_seq (by rfl) T.z_len PySem.boot_len (pa_cons (pe_lc (own := [("_law_sign", 1)]) (g := gName 1) (by rfl) sc_named.nd (pi_str (pv 0)) (blkOk_by (own := [("_law_sign", 1)]) (N := N_named) (sc := defScope s_named) (by decide +kernel)) (fun _ _ _ _ _ => (pg_name (i := 1) sc_named.nd rfl (Or.inl rfl))) (fun _ _ _ _ _ => pts_one (pt_cmpR op_notIn_sign (pv 1) pe_str (by rfl))) (fun _ _ _ _ _ => (pv 1))) pa_nil)) pe_int (nomark _))))), ?_⟩
    refine ⟨_, rfl, _, _, _, _, _, rfl, .ty _, tyx hd, kit_ty (kit_str d), _, rfl, ?_⟩
    refine ite2 (fun h => ?_) (fun h => ?_)
    · have e : isNameD d = false := by cases d <;> first | rfl | cases h
      rw [e] at k; exact iteT (k _ (Same.refl _))
    · cases hd with
      | str z =>
        have hl := okd_len od
        have zl : sizeLine = 16777216 := by decide
        have hz : z.length ≤ sizeLine := by omega
        have short : ¬ (1 ≤ z.length ∧ z.length ≤ 8) → Q (.bl false) H := fun hn => by
          have e : isNameD (.str z) = false := by
            cases e : isName z with
            | false => exact e
            | true => exact absurd (name_len e) hn
          rw [e] at k; exact k _ (Same.refl _)
        refine ⟨_, rfl, z, rfl, hz, _, _, rfl, rfl, _, rfl, ?_⟩
        refine ite2 (fun h1 => ?_) (fun h1 => ?_)
        · have h1 : (z.length : Int) < 1 := of_decide_eq_true h1
          exact iteT (short (by omega))
        have h1 : ¬ (z.length : Int) < 1 := fun q => h1 (decide_eq_true q)
        refine ⟨_, rfl, z, rfl, hz, _, _, rfl, rfl, _, rfl, ?_⟩
        refine ite2 (fun h2 => ?_) (fun h2 => ?_)
        · have h2 : (8 : Int) < z.length := of_decide_eq_true h2
          exact short (by omega)
        have h2 : ¬ (8 : Int) < z.length := fun q => h2 (decide_eq_true q)
        refine ⟨_, rfl, z, rfl, fun D nD => ?_⟩
        have sgl : ∀ {i : Nat} {c : Nat}, z.cps[i]? = some c → z.cps.toList[i]? = some c := fun h => by simpa using h
        have ez := len_list z
        refine lc_it (walk_str (z := z)) (fun i H' => H' = upd H D (.lst (((z.cps.toList.take i).filter fun c => !decide (c ∈ letters)).map fun c => .str (sg c)))) rfl (fun _ _ _ _ => trivial) ?_ ?_
        · rintro i x H1 H2 hi rfl ⟨rfl, c, hc, rfl⟩
          refine ⟨rfl, _, rfl, c, _, rfl, rfl, _, rfl, ?_⟩
          rw [take_succ_of (sgl hc), List.filter_append, List.map_append]
          refine ite2 (fun hn => ?_) (fun hn => ?_)
          · have hn : (!decide (c ∈ letters)) = true := hn
            refine ⟨_, rfl, _, upd_same, ?_, ?_⟩
            · rw [List.length_map]
              have q := List.length_filter_le (fun c => !decide (c ∈ letters)) (z.cps.toList.take i)
              have q2 : (z.cps.toList.take i).length ≤ z.cps.toList.length := by rw [List.length_take]; omega
              omega
            · rw [upd_upd]
              have e : [c].filter (fun c => !decide (c ∈ letters)) = [c] := by rw [List.filter_cons, if_pos hn]; rfl
              rw [e]; rfl
          · have hn : ¬ (!decide (c ∈ letters)) = true := hn
            have e : [c].filter (fun c => !decide (c ∈ letters)) = [] := by rw [List.filter_cons, if_neg hn]; rfl
            rw [e, List.map_nil, List.append_nil]
        · rintro H1 rfl
          refine ⟨D, _, rfl, .inl (SqL.of upd_same), rfl, ?_⟩
          have et : z.cps.toList.take z.cps.size = z.cps.toList := by
            have : z.cps.size = z.cps.toList.length := by simp
            rw [this, List.take_length]
          have e : decide (V.int (((((z.cps.toList.take z.cps.size).filter fun c => !decide (c ∈ letters)).map fun c => V.str (sg c)).length : Nat) : Int) = V.int 0) = isNameD (.str z) := by
            rw [et, List.length_map]
            show _ = isName z
            cases e : isName z with
            | true =>
              have q := (isName_iff.mp e).2
              rw [filter_len.mpr fun c hc => by simp [q c hc]]
              rfl
            | false =>
              refine decide_eq_false fun q => ?_
              injection q with q
              have q : ((z.cps.toList.filter fun c => !decide (c ∈ letters)).length = 0) := by omega
              rw [filter_len] at q
              have : isName z = true := isName_iff.mpr ⟨by omega, fun c hc => by simpa using q c hc⟩
              rw [this] at e; cases e
          show Q (.bl (decide _)) _
          rw [e]
          exact k _ (same_upd nD)
      | _ => exact absurd rfl h

-- ==== fitting
def sp_fitting (K : PySem.W.Frag) : Sp := fun vs H Q _ => ∃ (x : V) (d : PyData), vs = [x] ∧ Dp K H x d ∧ okd d = true ∧ ∀ H', Same H H' → Q (.bl (isArgsD d)) H'
theorem same_set {H H1 : Hp} {D : Addr} {o : HO} (s : Same H H1) (n : H D = none) : Same H (upd H1 D o) := fun p u h => by
  rw [upd_ne (ne_of_none h n)]; exact s _ _ h
theorem ok_fitting (T : Tx K mg ad) : FnOk P w K mg base CX0 2 ad.a_fitting ad.d_fitting ["_law_thing"] (sp_fitting K) := by
  refine T.F_fitting.ok sc_fitting (fun vs H Q E h => ?_) (fun cdv A outer s H vs Q E hr h => ?_)
  · obtain ⟨x, d, rfl, _⟩ := h; rfl
  · obtain ⟨x, d, rfl, hd, od, k⟩ := h
    refine ⟨_, (pss_cons (ps_if (PW.pt (pw_or (pt_not (pt_val (pe_callB call_isi (by rfl) T.z_isinstance (by decide +kernel) (pa_cons (pv 0) (pa_cons (pe_bltn (v := .ty "tuple") (by rfl) T.z_tuple (by decide +kernel) rfl) pa_nil))))) (pw_or1 (pt_cmpR op_gt (pe_callB call_len_seq (by rfl) T.z_len PySem.boot_len (pa_cons (pv 0) pa_nil)) pe_int (nomark _))))) (pss_one (ps_ret pe_bl)) pss_nil) (pss_one (ps_ret (pe_cmpR op_eq (pe_callB call_len_seq (by rfl) T.z_len PySem.boot_len (pa_cons (pe_lc (own := [("_law_word_here", 1)]) (g := gName 1) (by rfl) sc_fitting.nd (pi_tup (pv 0)) (blkOk_by (own := [("_law_word_here", 1)]) (N := N_fitting) (sc := defScope s_fitting) (by decide +kernel)) (fun _ _ _ _ _ => (pg_name (i := 1) sc_fitting.nd rfl (Or.inl rfl))) (fun _ _ _ _ _ => pts_one (pt_not (pt_val (pe_call (ok_named T) (hr.mono (by decide)) (by rfl) T.g_named T.F_named.kp T.b_named .nil pass0 (pa_cons (pv 1) pa_nil))))) (fun _ _ _ _ _ => (pv 1))) pa_nil)) pe_int (nomark _))))), ?_⟩
    refine ⟨_, rfl, _, _, _, _, _, rfl, .ty _, tyx hd, kit_ty (kit_tuple d), _, rfl, ?_⟩
    refine ite2 (fun h => ?_) (fun h => ?_)
    · have e : isArgsD d = false := by cases d <;> first | rfl | cases h
      rw [e] at k; exact iteT (k _ (Same.refl _))
    · cases hd with
      | @tup a xs ds hs ha =>
        have el := DpAll.len ha
        have zl : sizeLine = 16777216 := by decide
        refine ⟨_, rfl, a, _, rfl, .inr hs, _, _, rfl, rfl, _, rfl, ?_⟩
        refine ite2 (fun h1 => ?_) (fun h1 => ?_)
        · have h1 : (3 : Int) < xs.length := of_decide_eq_true h1
          have e : isArgsD (.tuple ds) = false := by
            show (decide (ds.length ≤ 3) && _) = false
            rw [decide_eq_false (by omega)]; rfl
          rw [e] at k; exact k _ (Same.refl _)
        · have h1 : ¬ (3 : Int) < xs.length := fun q => h1 (decide_eq_true q)
          refine ⟨_, rfl, a, rfl, ⟨_, hs⟩, fun D nD => ?_⟩
          refine lc_it (walk_tup (K := K) (a := a) (xs := xs)) (fun i H' => Same H H' ∧ ∃ acc, H' D = some (.lst acc) ∧ acc.length = ((ds.take i).filter fun d => !isNameD d).length) ⟨same_upd nD, [], upd_same, rfl⟩ (fun i H' _ h => sqT_mono h.1 hs) ?_ ?_
          · rintro i x H1 H2 hi ⟨sm, acc, hD, hl⟩ ⟨rfl, hx⟩
            obtain ⟨d, h2, h3⟩ := DpAll.get ha hx
            refine ⟨rfl, _, rfl, x, d, rfl, Dp.mono sm h3, okdL_mem od d (List.mem_of_getElem? h2), fun H3 s3 => ⟨_, rfl, ?_⟩⟩
            have q1 := List.length_filter_le (fun d => !isNameD d) (ds.take i)
            have q2 : (ds.take i).length ≤ ds.length := by rw [List.length_take]; omega
            rw [take_succ_of h2, List.filter_append, List.length_append]
            refine ite2 (fun hn => ?_) (fun hn => ?_)
            · have hn : (!isNameD d) = true := hn
              have e : [d].filter (fun d => !isNameD d) = [d] := by rw [List.filter_cons, if_pos hn]; rfl
              rw [e]
              refine ⟨_, rfl, acc, s3 _ _ hD, by omega, same_set (sm.trans s3) nD, _, upd_same, ?_⟩
              rw [List.length_append, hl]; rfl
            · have hn : ¬ (!isNameD d) = true := hn
              have e : [d].filter (fun d => !isNameD d) = [] := by rw [List.filter_cons, if_neg hn]; rfl
              rw [e]
              exact ⟨sm.trans s3, acc, s3 _ _ hD, by rw [hl]; rfl⟩
          · rintro H1 ⟨sm, acc, hD, hl⟩
            refine ⟨D, _, rfl, .inl (SqL.of hD), rfl, ?_⟩
            have e : decide (V.int ((acc.length : Nat) : Int) = V.int 0) = isArgsD (.tuple ds) := by
              rw [hl, el, List.take_length]
              show _ = (decide (ds.length ≤ 3) && ds.all isNameD)
              rw [show decide (ds.length ≤ 3) = true from decide_eq_true (by omega), Bool.true_and]
              cases e : ds.all isNameD with
              | true =>
                rw [List.all_eq_true] at e
                rw [filter_len.mpr fun c hc => by simp [e c hc]]
                rfl
              | false =>
                refine decide_eq_false fun q => ?_
                injection q with q
                have q : ((ds.filter fun d => !isNameD d).length = 0) := by omega
                rw [filter_len] at q
                have : ds.all isNameD = true := List.all_eq_true.mpr fun d hd => by simpa using q d hd
                rw [this] at e; cases e
            show Q (.bl (decide _)) _
            rw [e]
            exact k _ sm
      | _ => exact absurd rfl h

-- ==== truth
def sp_truth : Sp := fun vs H Q _ => ∃ b c : Bool, vs = [.bl b, .bl c] ∧ Q (.bl (decide (b = c))) H
theorem ok_truth (T : Tx K mg ad) : FnOk P w K mg base CX0 1 ad.a_truth ad.d_truth ["_law_got", "_law_due"] sp_truth := by
  refine T.F_truth.ok sc_truth (fun vs H Q E h => ?_) (fun cdv A outer s H vs Q E hr h => ?_)
  · obtain ⟨x, d, rfl, _⟩ := h; rfl
  · obtain ⟨x, y, rfl, k⟩ := h
    refine ⟨_, (pss_one (ps_ret (pe_and (pe_callB call_isi (by rfl) T.z_isinstance (by decide +kernel) (pa_cons (pv 0) (pa_cons (pe_bltn (v := .ty "bool") (by rfl) T.z_bool (by decide +kernel) rfl) pa_nil))) (pe_one (pe_cmpR op_eq (pv 0) (pv 1) (nomark _)))))), ?_⟩
    refine ⟨_, rfl, _, _, _, _, _, rfl, .ty _, tyx (.bl x), kit_ty (kit_bool (.bool x)), _, rfl, ?_⟩
    refine iteT ⟨_, rfl, _, rfl, rfl, ?_⟩
    have e : decide (V.bl x = V.bl y) = decide (x = y) := by cases x <;> cases y <;> rfl
    show Q (.bl (decide (V.bl x = V.bl y))) H
    rw [e]; exact k

-- ==== k01_law
def sp_law (K : PySem.W.Frag) : Sp := fun vs H Q _ => ∃ (a : Addr) (ns : List Int), vs = [.ref a] ∧ SqL K H a (ns.map V.int) ∧ ns.length ≤ 63 ∧ Only H ∧ ∀ H', Q (.bl true) H'
theorem ok_law (T : Tx K mg ad) : FnOk P w K mg base CX0 7 ad.a_law ad.d_law ["_law_script"] (sp_law K) := by
  refine T.F_law.ok sc_law (fun vs H Q E h => ?_) (fun cdv A outer s H vs Q E hr h => ?_)
  · obtain ⟨a, ns, rfl, _⟩ := h; rfl
  · obtain ⟨a, ns, rfl, hS, hlen, hO, k⟩ := h
    refine ⟨_, (pss_cons (ps_set (i := 1) sc_law.nd rfl (Or.inl rfl) (pe_call (ok_bag T) (hr.mono (by decide)) (by rfl) T.g_bag T.F_bag.kp T.b_bag .nil pass0 (pa_cons (pv 0) pa_nil))) (pss_cons (ps_for PassesOwn.never rfl (pi_range1 (by rfl) T.z_range (pa_cons pe_int pa_nil)) (pg_name (i := 2) sc_law.nd rfl (Or.inl rfl)) (pss_cons (ps_set (i := 3) sc_law.nd rfl (Or.inl rfl) (pe_call (ok_any T) (hr.mono (by decide)) (by rfl) T.g_any T.F_any.kp T.b_any .nil pass0 (pa_cons (pv 1) pa_nil))) (pss_cons (ps_if (pt_not (pt_val (pe_call (ok_truth T) (hr.mono (by decide)) (by rfl) T.g_truth T.F_truth.kp T.b_truth .nil pass0 (pa_cons (pe_call (ok_is_name T) (hr.mono (by decide)) (by rfl) T.g_is_name T.F_is_name.kp T.b_is_name .nil pass0 (pa_cons (pv 3) pa_nil)) (pa_cons (pe_call (ok_named T) (hr.mono (by decide)) (by rfl) T.g_named T.F_named.kp T.b_named .nil pass0 (pa_cons (pv 3) pa_nil)) pa_nil))))) (pss_one (ps_ret pe_bl)) pss_nil) (pss_one (ps_if (pt_not (pt_val (pe_call (ok_truth T) (hr.mono (by decide)) (by rfl) T.g_truth T.F_truth.kp T.b_truth .nil pass0 (pa_cons (pe_call (ok_is_arguments T) (hr.mono (by decide)) (by rfl) T.g_is_arguments T.F_is_arguments.kp T.b_is_arguments .nil pass0 (pa_cons (pv 3) pa_nil)) (pa_cons (pe_call (ok_fitting T) (hr.mono (by decide)) (by rfl) T.g_fitting T.F_fitting.kp T.b_fitting .nil pass0 (pa_cons (pv 3) pa_nil)) pa_nil))))) (pss_one (ps_ret pe_bl)) pss_nil))))) (pss_one (ps_ret pe_bl)))), ?_⟩
    refine ⟨_, rfl, a, ns, rfl, hS, fun b H1 w1 => ?_⟩
    refine ⟨12, rfl, by decide, by decide, for_range (lo := 0) (n := 12) (fun i σ H' => ∃ x y, σ = [some (.ref a), some (.ref b), x, y] ∧ Wd b H H') ⟨none, none, rfl, w1⟩ ?_ ?_⟩
    · rintro i σ H2 hi ⟨x, y, rfl, w2⟩
      refine ⟨_, rfl, b, H, rfl, w2, fun v d H3 H4 s3 w4 hd od => ?_⟩
      have hd4 := Dp.mono w4.same hd
      refine ⟨_, rfl, v, d, rfl, hd4, od.ok, _, rfl, v, d, rfl, hd4, od.ok, fun H5 s5 => ⟨_, _, rfl, _, rfl, ?_⟩⟩
      rw [decide_eq_true rfl]
      refine iteF ?_
      have hd5 := Dp.mono s5 hd4
      refine ⟨_, rfl, v, d, rfl, hd5, od.ok, _, rfl, v, d, rfl, hd5, od.ok, fun H6 s6 => ⟨_, _, rfl, _, rfl, ?_⟩⟩
      rw [decide_eq_true rfl]
      refine iteF ?_
      exact ⟨_, _, rfl, ((w4.grow s5).grow s6).less s3⟩
    · rintro σ H2 ⟨x, y, rfl, w2⟩
      exact k _

end
theorem all_mk {l : PySem.W.OpenLaw} {w : World} {K : PySem.W.Frag} {h : Heap} {mg : Str → Option Value} {fa f0 f1 f2 f3 f4 f5 f6 f7 f8 f9 f10 f11 f12 f13 : Addr} {od0 an0 od1 an1 od2 an2 od3 an3 od4 an4 od5 an5 od6 an6 od7 an7 od8 an8 od9 an9 od10 an10 od11 an11 od12 an12 od13 an13 : Option Addr} {sl0 sl1 sl2 sl3 sl4 sl5 sl6 sl7 sl8 sl9 sl10 sl11 sl12 sl13 : Array (Option Value)} {oc0 kV0 dc0 pm0 cd0 ct0 oc1 kV1 dc1 pm1 cd1 ct1 oc2 kV2 dc2 pm2 cd2 ct2 oc3 kV3 dc3 pm3 cd3 ct3 oc4 kV4 dc4 pm4 cd4 ct4 oc5 kV5 dc5 pm5 cd5 ct5 oc6 kV6 dc6 pm6 cd6 ct6 oc7 kV7 dc7 pm7 cd7 ct7 oc8 kV8 dc8 pm8 cd8 ct8 oc9 kV9 dc9 pm9 cd9 ct9 oc10 kV10 dc10 pm10 cd10 ct10 oc11 kV11 dc11 pm11 cd11 ct11 oc12 kV12 dc12 pm12 cd12 ct12 oc13 kV13 dc13 pm13 cd13 ct13 : Value} {t_LETTERS t_MOST_ARGUMENTS t_MOST_LETTERS : Tok} (X : K.In h) (G : h.Ns mainGlobals mg) (hfa : mg "law" = some (.ref fa))
    (a0 : PySem.W.nsIn K mainGlobals "_law_mixed" = some (some (.ref f0)))
    (l0 : K.lookup f0 = some ⟨oc0, od0, .func (PySem.W.fnOf "_law_mixed" "_law_mixed" (defArgs s_mixed) (defBody s_mixed) (defScope s_mixed) .none kV0 dc0 pm0 an0 cd0 ct0), sl0⟩)
    (c0 : PySem.W.codeIn K cd0 "_law_mixed" = true) (k0 : PySem.W.keepIn K (.ref f0) = true)
    (a1 : PySem.W.nsIn K mainGlobals "_law_draw" = some (some (.ref f1)))
    (l1 : K.lookup f1 = some ⟨oc1, od1, .func (PySem.W.fnOf "_law_draw" "_law_draw" (defArgs s_draw) (defBody s_draw) (defScope s_draw) .none kV1 dc1 pm1 an1 cd1 ct1), sl1⟩)
    (c1 : PySem.W.codeIn K cd1 "_law_draw" = true) (k1 : PySem.W.keepIn K (.ref f1) = true)
    (a2 : PySem.W.nsIn K mainGlobals "_law_bag" = some (some (.ref f2)))
    (l2 : K.lookup f2 = some ⟨oc2, od2, .func (PySem.W.fnOf "_law_bag" "_law_bag" (defArgs s_bag) (defBody s_bag) (defScope s_bag) .none kV2 dc2 pm2 an2 cd2 ct2), sl2⟩)
    (c2 : PySem.W.codeIn K cd2 "_law_bag" = true) (k2 : PySem.W.keepIn K (.ref f2) = true)
    (a3 : PySem.W.nsIn K mainGlobals "_law_word" = some (some (.ref f3)))
    (l3 : K.lookup f3 = some ⟨oc3, od3, .func (PySem.W.fnOf "_law_word" "_law_word" (defArgs s_word) (defBody s_word) (defScope s_word) .none kV3 dc3 pm3 an3 cd3 ct3), sl3⟩)
    (c3 : PySem.W.codeIn K cd3 "_law_word" = true) (k3 : PySem.W.keepIn K (.ref f3) = true)
    (a4 : PySem.W.nsIn K mainGlobals "_law_short" = some (some (.ref f4)))
    (l4 : K.lookup f4 = some ⟨oc4, od4, .func (PySem.W.fnOf "_law_short" "_law_short" (defArgs s_short) (defBody s_short) (defScope s_short) .none kV4 dc4 pm4 an4 cd4 ct4), sl4⟩)
    (c4 : PySem.W.codeIn K cd4 "_law_short" = true) (k4 : PySem.W.keepIn K (.ref f4) = true)
    (a5 : PySem.W.nsIn K mainGlobals "_law_arguments" = some (some (.ref f5)))
    (l5 : K.lookup f5 = some ⟨oc5, od5, .func (PySem.W.fnOf "_law_arguments" "_law_arguments" (defArgs s_arguments) (defBody s_arguments) (defScope s_arguments) .none kV5 dc5 pm5 an5 cd5 ct5), sl5⟩)
    (c5 : PySem.W.codeIn K cd5 "_law_arguments" = true) (k5 : PySem.W.keepIn K (.ref f5) = true)
    (a6 : PySem.W.nsIn K mainGlobals "_law_spoilt" = some (some (.ref f6)))
    (l6 : K.lookup f6 = some ⟨oc6, od6, .func (PySem.W.fnOf "_law_spoilt" "_law_spoilt" (defArgs s_spoilt) (defBody s_spoilt) (defScope s_spoilt) .none kV6 dc6 pm6 an6 cd6 ct6), sl6⟩)
    (c6 : PySem.W.codeIn K cd6 "_law_spoilt" = true) (k6 : PySem.W.keepIn K (.ref f6) = true)
    (a7 : PySem.W.nsIn K mainGlobals "_law_any" = some (some (.ref f7)))
    (l7 : K.lookup f7 = some ⟨oc7, od7, .func (PySem.W.fnOf "_law_any" "_law_any" (defArgs s_any) (defBody s_any) (defScope s_any) .none kV7 dc7 pm7 an7 cd7 ct7), sl7⟩)
    (c7 : PySem.W.codeIn K cd7 "_law_any" = true) (k7 : PySem.W.keepIn K (.ref f7) = true)
    (a8 : PySem.W.nsIn K mainGlobals "is_name" = some (some (.ref f8)))
    (l8 : K.lookup f8 = some ⟨oc8, od8, .func (PySem.W.fnOf "is_name" "is_name" (defArgs s_is_name) (defBody s_is_name) (defScope s_is_name) .none kV8 dc8 pm8 an8 cd8 ct8), sl8⟩)
    (c8 : PySem.W.codeIn K cd8 "is_name" = true) (k8 : PySem.W.keepIn K (.ref f8) = true)
    (a9 : PySem.W.nsIn K mainGlobals "is_arguments" = some (some (.ref f9)))
    (l9 : K.lookup f9 = some ⟨oc9, od9, .func (PySem.W.fnOf "is_arguments" "is_arguments" (defArgs s_is_arguments) (defBody s_is_arguments) (defScope s_is_arguments) .none kV9 dc9 pm9 an9 cd9 ct9), sl9⟩)
    (c9 : PySem.W.codeIn K cd9 "is_arguments" = true) (k9 : PySem.W.keepIn K (.ref f9) = true)
    (a10 : PySem.W.nsIn K mainGlobals "_law_named" = some (some (.ref f10)))
    (l10 : K.lookup f10 = some ⟨oc10, od10, .func (PySem.W.fnOf "_law_named" "_law_named" (defArgs s_named) (defBody s_named) (defScope s_named) .none kV10 dc10 pm10 an10 cd10 ct10), sl10⟩)
    (c10 : PySem.W.codeIn K cd10 "_law_named" = true) (k10 : PySem.W.keepIn K (.ref f10) = true)
    (a11 : PySem.W.nsIn K mainGlobals "_law_fitting" = some (some (.ref f11)))
    (l11 : K.lookup f11 = some ⟨oc11, od11, .func (PySem.W.fnOf "_law_fitting" "_law_fitting" (defArgs s_fitting) (defBody s_fitting) (defScope s_fitting) .none kV11 dc11 pm11 an11 cd11 ct11), sl11⟩)
    (c11 : PySem.W.codeIn K cd11 "_law_fitting" = true) (k11 : PySem.W.keepIn K (.ref f11) = true)
    (a12 : PySem.W.nsIn K mainGlobals "_law_truth" = some (some (.ref f12)))
    (l12 : K.lookup f12 = some ⟨oc12, od12, .func (PySem.W.fnOf "_law_truth" "_law_truth" (defArgs s_truth) (defBody s_truth) (defScope s_truth) .none kV12 dc12 pm12 an12 cd12 ct12), sl12⟩)
    (c12 : PySem.W.codeIn K cd12 "_law_truth" = true) (k12 : PySem.W.keepIn K (.ref f12) = true)
    (a13 : PySem.W.nsIn K mainGlobals "law" = some (some (.ref f13)))
    (l13 : K.lookup f13 = some ⟨oc13, od13, .func (PySem.W.fnOf "law" "law" (defArgs s_law) (defBody s_law) (defScope s_law) .none kV13 dc13 pm13 an13 cd13 ct13), sl13⟩)
    (c13 : PySem.W.codeIn K cd13 "law" = true) (k13 : PySem.W.keepIn K (.ref f13) = true)
    (q_LETTERS : PySem.W.nsIn K mainGlobals "LETTERS" = some (some (.str "abcdefghijklmnopqrstuvwxyz" t_LETTERS)))
    (q_MOST_ARGUMENTS : PySem.W.nsIn K mainGlobals "MOST_ARGUMENTS" = some (some (.int 3 t_MOST_ARGUMENTS)))
    (q_MOST_LETTERS : PySem.W.nsIn K mainGlobals "MOST_LETTERS" = some (some (.int 8 t_MOST_LETTERS)))
    (z_bool : PySem.W.nsIn K mainGlobals "bool" = some none)
    (z_int : PySem.W.nsIn K mainGlobals "int" = some none)
    (z_isinstance : PySem.W.nsIn K mainGlobals "isinstance" = some none)
    (z_len : PySem.W.nsIn K mainGlobals "len" = some none)
    (z_list : PySem.W.nsIn K mainGlobals "list" = some none)
    (z_range : PySem.W.nsIn K mainGlobals "range" = some none)
    (z_str : PySem.W.nsIn K mainGlobals "str" = some none)
    (z_tuple : PySem.W.nsIn K mainGlobals "tuple" = some none) :
    ∃ fd : FuncData, (∀ (s : Shared) (v : Value), BindsTo s fd ⟨[v], []⟩ [("_law_script", v)]) ∧ ∀ base : Heap, K.In base → base.Ns mainGlobals mg → FnOk l.prog w K mg base CX0 7 fa fd ["_law_script"] (sp_law K) := by
  have e := hfa.symm.trans (PySem.W.mg_of X G a13)
  cases e
  have F0 := fun_mk (st := s_mixed) l0 c0 k0
  have b0 := F0.binds (ps := ["_law_seed", "_law_count"]) fun _ _ _ _ _ _ us hl => match us, hl with | [_, _], _ => rfl
  have F1 := fun_mk (st := s_draw) l1 c1 k1
  have b1 := F1.binds (ps := ["_law_bag_here", "_law_limit"]) fun _ _ _ _ _ _ us hl => match us, hl with | [_, _], _ => rfl
  have F2 := fun_mk (st := s_bag) l2 c2 k2
  have b2 := F2.binds (ps := ["_law_script"]) fun _ _ _ _ _ _ us hl => match us, hl with | [_], _ => rfl
  have F3 := fun_mk (st := s_word) l3 c3 k3
  have b3 := F3.binds (ps := ["_law_bag_here"]) fun _ _ _ _ _ _ us hl => match us, hl with | [_], _ => rfl
  have F4 := fun_mk (st := s_short) l4 c4 k4
  have b4 := F4.binds (ps := ["_law_bag_here"]) fun _ _ _ _ _ _ us hl => match us, hl with | [_], _ => rfl
  have F5 := fun_mk (st := s_arguments) l5 c5 k5
  have b5 := F5.binds (ps := ["_law_bag_here"]) fun _ _ _ _ _ _ us hl => match us, hl with | [_], _ => rfl
  have F6 := fun_mk (st := s_spoilt) l6 c6 k6
  have b6 := F6.binds (ps := ["_law_bag_here"]) fun _ _ _ _ _ _ us hl => match us, hl with | [_], _ => rfl
  have F7 := fun_mk (st := s_any) l7 c7 k7
  have b7 := F7.binds (ps := ["_law_bag_here"]) fun _ _ _ _ _ _ us hl => match us, hl with | [_], _ => rfl
  have F8 := fun_mk (st := s_is_name) l8 c8 k8
  have b8 := F8.binds (ps := ["thing"]) fun _ _ _ _ _ _ us hl => match us, hl with | [_], _ => rfl
  have F9 := fun_mk (st := s_is_arguments) l9 c9 k9
  have b9 := F9.binds (ps := ["thing"]) fun _ _ _ _ _ _ us hl => match us, hl with | [_], _ => rfl
  have F10 := fun_mk (st := s_named) l10 c10 k10
  have b10 := F10.binds (ps := ["_law_thing"]) fun _ _ _ _ _ _ us hl => match us, hl with | [_], _ => rfl
  have F11 := fun_mk (st := s_fitting) l11 c11 k11
  have b11 := F11.binds (ps := ["_law_thing"]) fun _ _ _ _ _ _ us hl => match us, hl with | [_], _ => rfl
  have F12 := fun_mk (st := s_truth) l12 c12 k12
  have b12 := F12.binds (ps := ["_law_got", "_law_due"]) fun _ _ _ _ _ _ us hl => match us, hl with | [_, _], _ => rfl
  have F13 := fun_mk (st := s_law) l13 c13 k13
  have b13 := F13.binds (ps := ["_law_script"]) fun _ _ _ _ _ _ us hl => match us, hl with | [_], _ => rfl
  exact ⟨_, fun s v => .of_eq rfl, fun base _ _ => ok_law (ad := ⟨f0, _, f1, _, f2, _, f3, _, f4, _, f5, _, f6, _, f7, _, f8, _, f9, _, f10, _, f11, _, f12, _, _, _, t_LETTERS, t_MOST_ARGUMENTS, t_MOST_LETTERS⟩) ⟨F0, PySem.W.mg_of X G a0, b0, F1, PySem.W.mg_of X G a1, b1, F2, PySem.W.mg_of X G a2, b2, F3, PySem.W.mg_of X G a3, b3, F4, PySem.W.mg_of X G a4, b4, F5, PySem.W.mg_of X G a5, b5, F6, PySem.W.mg_of X G a6, b6, F7, PySem.W.mg_of X G a7, b7, F8, PySem.W.mg_of X G a8, b8, F9, PySem.W.mg_of X G a9, b9, F10, PySem.W.mg_of X G a10, b10, F11, PySem.W.mg_of X G a11, b11, F12, PySem.W.mg_of X G a12, b12, F13, PySem.W.mg_of X G a13, b13, PySem.W.mg_of X G q_LETTERS, PySem.W.mg_of X G q_MOST_ARGUMENTS, PySem.W.mg_of X G q_MOST_LETTERS, PySem.W.mg_none_of X G z_bool, PySem.W.mg_none_of X G z_int, PySem.W.mg_none_of X G z_isinstance, PySem.W.mg_none_of X G z_len, PySem.W.mg_none_of X G z_list, PySem.W.mg_none_of X G z_range, PySem.W.mg_none_of X G z_str, PySem.W.mg_none_of X G z_tuple⟩⟩
theorem walk {l : PySem.W.OpenLaw} {q : Program} {loose : List Str} {XP : (Str → Option Value) → Heap → Prop} {YP : World → Heap → Prop} {d : DefRec} {K : Params → PySem.W.Frag} (hn : l.most = some 63) (hdf : d.params.defaults = [])
    (hY : ∀ (w : World) (h : Heap), YP w h → (K w.params).In h)
    (F : ∀ (w : World) (mg : Str → Option Value) (fa : Addr) (h : Heap), (K w.params).In h → h.Ns mainGlobals mg → mg d.name = some (.ref fa) →
      ∃ fd : FuncData, (∀ (s : Shared) (u : Value), BindsTo s fd ⟨[u], []⟩ [("_law_script", u)]) ∧ ∀ base : Heap, (K w.params).In base → base.Ns mainGlobals mg → FnOk l.prog w (K w.params) mg base CX0 7 fa fd ["_law_script"] (sp_law (K w.params))) :
    PySem.W.WalkO q loose XP YP l.row.toRowW d [] (fun f vs => PySem.call f vs) :=
  L2.walk_of (n := 63) (k := 7) (x := "_law_script") (CX := fun _ => CX0) (sp := fun w => sp_law (K w.params)) hn (by decide) hdf ⟨rfl, by decide, by decide⟩ hY F (fun _ _ a ns hl hO hS => ⟨a, ns, rfl, hS, hl, hO, fun _ => rfl⟩) fun _ _ _ _ _ z => z
end Own

open PySem PySem.W PyProof.Rows in
set_option maxRecDepth 100000 in
set_option maxHeartbeats 0 in
theorem PySem.Challenge.cw_oneandonly_k01_names_and_arguments_holds : PySem.Challenge.rw_oneandonly_k01_names_and_arguments.Holds := by
  w_on; o_law; k_head; (case hw => w_witness2)
  k_fill
  refine Own.walk (l := PySem.Challenge.rw_oneandonly_k01_names_and_arguments) rfl rfl (fun w h Y => PySem.W.kIn_of Y) ?F
  case F =>
    intro w mg fa h KX G hmg
    refine' Own.all_mk KX G hmg ?a0 ?l0 ?c0 ?k0 ?a1 ?l1 ?c1 ?k1 ?a2 ?l2 ?c2 ?k2 ?a3 ?l3 ?c3 ?k3 ?a4 ?l4 ?c4 ?k4 ?a5 ?l5 ?c5 ?k5 ?a6 ?l6 ?c6 ?k6 ?a7 ?l7 ?c7 ?k7 ?a8 ?l8 ?c8 ?k8 ?a9 ?l9 ?c9 ?k9 ?a10 ?l10 ?c10 ?k10 ?a11 ?l11 ?c11 ?k11 ?a12 ?l12 ?c12 ?k12 ?a13 ?l13 ?c13 ?k13 ?q_LETTERS ?q_MOST_ARGUMENTS ?q_MOST_LETTERS ?z_bool ?z_int ?z_isinstance ?z_len ?z_list ?z_range ?z_str ?z_tuple
    (case a0 => k_is)
    (case l0 => k_is)
    (case c0 => k_is)
    (case k0 => k_is)
    (case a1 => k_is)
    (case l1 => k_is)
    (case c1 => k_is)
    (case k1 => k_is)
    (case a2 => k_is)
    (case l2 => k_is)
    (case c2 => k_is)
    (case k2 => k_is)
    (case a3 => k_is)
    (case l3 => k_is)
    (case c3 => k_is)
    (case k3 => k_is)
    (case a4 => k_is)
    (case l4 => k_is)
    (case c4 => k_is)
    (case k4 => k_is)
    (case a5 => k_is)
    (case l5 => k_is)
    (case c5 => k_is)
    (case k5 => k_is)
    (case a6 => k_is)
    (case l6 => k_is)
    (case c6 => k_is)
    (case k6 => k_is)
    (case a7 => k_is)
    (case l7 => k_is)
    (case c7 => k_is)
    (case k7 => k_is)
    (case a8 => k_is)
    (case l8 => k_is)
    (case c8 => k_is)
    (case k8 => k_is)
    (case a9 => k_is)
    (case l9 => k_is)
    (case c9 => k_is)
    (case k9 => k_is)
    (case a10 => k_is)
    (case l10 => k_is)
    (case c10 => k_is)
    (case k10 => k_is)
    (case a11 => k_is)
    (case l11 => k_is)
    (case c11 => k_is)
    (case k11 => k_is)
    (case a12 => k_is)
    (case l12 => k_is)
    (case c12 => k_is)
    (case k12 => k_is)
    (case a13 => k_is)
    (case l13 => k_is)
    (case c13 => k_is)
    (case k13 => k_is)
    (case q_LETTERS => k_is)
    (case q_MOST_ARGUMENTS => k_is)
    (case q_MOST_LETTERS => k_is)
    (case z_bool => k_is)
    (case z_int => k_is)
    (case z_isinstance => k_is)
    (case z_len => k_is)
    (case z_list => k_is)
    (case z_range => k_is)
    (case z_str => k_is)
    (case z_tuple => k_is)
