import PyProof.Rows.All
import Wide.All
import OpenK.AllK
import Wide.FinOn
import HandS.ForMost
import HandS.IsInst
import HandS.Wide
import HandS.Walk
import HandS.TupAny
import HandS.Zip
import HandS.Codes
import HandS.MakeKw
import HandS.MakeKwOnly
import HandS.ClsMeth
import HandS.SlotsOwn
import PyProof.InstNe
import PySem.Challenge.RW_oneandonly_k04_parts_and_kinds
set_option Elab.async false
set_option linter.all false
set_option maxRecDepth 100000
set_option maxHeartbeats 4000000
namespace Own
open PySem L2
def topS (i : Nat) : Stmt := PySem.Challenge.pw_oneandonly_k04_parts_and_kinds.main.body.getD i (.Pass ⟨0, 0, 0, 0⟩)
abbrev s_mixed : Stmt := topS 18
abbrev N_mixed : List Str := ["_law_seed", "_law_count", "_law_one", "_law_two"]
theorem sc_mixed : FnScope N_mixed ["_law_seed", "_law_count"] (defScope s_mixed) := ⟨rfl, rfl, rfl, by decide +kernel, rfl, by decide +kernel, by decide +kernel⟩
abbrev s_draw : Stmt := topS 19
abbrev N_draw : List Str := ["_law_bag_here", "_law_limit", "_law_cell", "_law_digit"]
theorem sc_draw : FnScope N_draw ["_law_bag_here", "_law_limit"] (defScope s_draw) := ⟨rfl, rfl, rfl, by decide +kernel, rfl, by decide +kernel, by decide +kernel⟩
abbrev s_bag : Stmt := topS 17
abbrev N_bag : List Str := ["_law_script", "_law_seed", "_law_cell"]
theorem sc_bag : FnScope N_bag ["_law_script"] (defScope s_bag) := ⟨rfl, rfl, rfl, by decide +kernel, rfl, by decide +kernel, by decide +kernel⟩
abbrev s_word : Stmt := topS 20
abbrev N_word : List Str := ["_law_bag_here", "_law_letters", "_law_many", "_law_signs", "_law_k"]
theorem sc_word : FnScope N_word ["_law_bag_here"] (defScope s_word) := ⟨rfl, rfl, rfl, by decide +kernel, rfl, by decide +kernel, by decide +kernel⟩
abbrev s_short : Stmt := topS 21
abbrev N_short : List Str := ["_law_bag_here", "_law_letters", "_law_word_here"]
theorem sc_short : FnScope N_short ["_law_bag_here"] (defScope s_short) := ⟨rfl, rfl, rfl, by decide +kernel, rfl, by decide +kernel, by decide +kernel⟩
abbrev s_is_name : Stmt := topS 9
abbrev N_is_name : List Str := ["thing", "sign"]
theorem sc_is_name : FnScope N_is_name ["thing"] (defScope s_is_name) := ⟨rfl, rfl, rfl, by decide +kernel, rfl, by decide +kernel, by decide +kernel⟩
abbrev s_is_up : Stmt := topS 12
abbrev N_is_up : List Str := ["thing"]
theorem sc_is_up : FnScope N_is_up ["thing"] (defScope s_is_up) := ⟨rfl, rfl, rfl, by decide +kernel, rfl, by decide +kernel, by decide +kernel⟩
abbrev s_Part_init : Stmt := inClass (topS 13) 0
abbrev N_Part_init : List Str := ["self", "up", "guarded"]
theorem sc_Part_init : FnScope N_Part_init ["self", "up", "guarded"] (defScope s_Part_init) := ⟨rfl, rfl, rfl, by decide +kernel, rfl, by decide +kernel, by decide +kernel⟩
abbrev s_Part_eq : Stmt := inClass (topS 13) 1
abbrev N_Part_eq : List Str := ["self", "other"]
theorem sc_Part_eq : FnScope N_Part_eq ["self", "other"] (defScope s_Part_eq) := ⟨rfl, rfl, rfl, by decide +kernel, rfl, by decide +kernel, by decide +kernel⟩
abbrev s_is_row : Stmt := topS 14
abbrev N_is_row : List Str := ["thing", "name", "base", "own", "begin"]
theorem sc_is_row : FnScope N_is_row ["thing"] (defScope s_is_row) := ⟨rfl, rfl, rfl, by decide +kernel, rfl, by decide +kernel, by decide +kernel⟩
abbrev s_Kind_init : Stmt := inClass (topS 15) 0
abbrev N_Kind_init : List Str := ["self", "name", "base", "own", "begin"]
theorem sc_Kind_init : FnScope N_Kind_init ["self", "name", "base", "own", "begin"] (defScope s_Kind_init) := ⟨rfl, rfl, rfl, by decide +kernel, rfl, by decide +kernel, by decide +kernel⟩
abbrev s_Kind_of : Stmt := inClass (topS 15) 1
abbrev N_Kind_of : List Str := ["cls", "row", "name", "base", "own", "begin"]
theorem sc_Kind_of : FnScope N_Kind_of ["cls", "row"] (defScope s_Kind_of) := ⟨rfl, rfl, rfl, by decide +kernel, rfl, by decide +kernel, by decide +kernel⟩
abbrev s_Kind_row : Stmt := inClass (topS 15) 2
abbrev N_Kind_row : List Str := ["self"]
theorem sc_Kind_row : FnScope N_Kind_row ["self"] (defScope s_Kind_row) := ⟨rfl, rfl, rfl, by decide +kernel, rfl, by decide +kernel, by decide +kernel⟩
abbrev s_Kind_eq : Stmt := inClass (topS 15) 3
abbrev N_Kind_eq : List Str := ["self", "other"]
theorem sc_Kind_eq : FnScope N_Kind_eq ["self", "other"] (defScope s_Kind_eq) := ⟨rfl, rfl, rfl, by decide +kernel, rfl, by decide +kernel, by decide +kernel⟩
abbrev s_begin : Stmt := topS 22
abbrev N_begin : List Str := ["_law_bag_here", "_law_many"]
theorem sc_begin : FnScope N_begin ["_law_bag_here"] (defScope s_begin) := ⟨rfl, rfl, rfl, by decide +kernel, rfl, by decide +kernel, by decide +kernel⟩
abbrev s_drawn : Stmt := topS 23
abbrev N_drawn : List Str := ["_law_bag_here", "_law_base"]
theorem sc_drawn : FnScope N_drawn ["_law_bag_here"] (defScope s_drawn) := ⟨rfl, rfl, rfl, by decide +kernel, rfl, by decide +kernel, by decide +kernel⟩
abbrev s_built : Stmt := topS 24
abbrev N_built : List Str := ["_law_row", "_law_part"]
theorem sc_built : FnScope N_built ["_law_row"] (defScope s_built) := ⟨rfl, rfl, rfl, by decide +kernel, rfl, by decide +kernel, by decide +kernel⟩
abbrev s_entries : Stmt := topS 25
abbrev N_entries : List Str := ["_law_kd"]
theorem sc_entries : FnScope N_entries ["_law_kd"] (defScope s_entries) := ⟨rfl, rfl, rfl, by decide +kernel, rfl, by decide +kernel, by decide +kernel⟩
abbrev s_law : Stmt := topS 26
abbrev N_law : List Str := ["_law_script", "_law_bag_here", "_law_row", "_law_other", "_law_spot", "_law_one", "_law_two", "_law_three", "_law_kd"]
theorem sc_law : FnScope N_law ["_law_script"] (defScope s_law) := ⟨rfl, rfl, rfl, by decide +kernel, rfl, by decide +kernel, by decide +kernel⟩
/-- a method of the class at C -/
structure Mth (K : PySem.W.Frag) (C : Addr) (m : Str) (f : Addr) (F : Prop) : Prop where
  F : F
  at_ : PySem.W.findIn K (.ref C) m = some (some (.ref f))
  isfn : PySem.W.isFn K (.ref f) = true
  kp : PySem.W.keepIn K (.ref f) = true
theorem Mth.meth {K : PySem.W.Frag} {C : Addr} {m : Str} {f : Addr} {F : Prop} (M : Mth K C m f F) : Meth K C m f := ⟨M.at_, M.isfn, M.kp⟩
theorem sqT_written {K : PySem.W.Frag} {H : Hp} {a : Addr} {od : Option Addr} {its : List Value} {n : Nat} {sl : Array (Option Value)} {xs : List V} (h : K.lookup a = some ⟨.type "tuple", od, .seq its.toArray n, sl⟩) (r : Vals xs its) (hl : xs.length ≤ sizeLine) : SqT K H a xs :=
  .inr ⟨_, its.toArray, n, h, rfl, rfl, by rw [List.size_toArray, ← r.length]; exact hl, r⟩
theorem kit_self {K : PySem.W.Frag} {c : Value} : PySem.W.kitOne K c c = some true := by
  unfold PySem.W.kitOne
  rw [if_pos (by simp)]
theorem kit_own {K : PySem.W.Frag} {C : Addr} {t : Value} (h1 : PySem.W.isClsIn K C = true) (h2 : PySem.W.typeIn K (.ref C) = some (.type "type")) (hs : PySem.W.subIn K (.ref C) (.ref C) = some true) (h3 : PySem.W.subIn K t (.ref C) = some false) : PySem.W.kitOne K t (.ref C) = some false := by
  unfold PySem.W.kitOne PySem.W.kitCls
  by_cases e : t = .ref C
  · rw [e, hs] at h3; cases h3
  · rw [if_neg (by simpa using e)]
    have h4 : ((PySem.W.clsIn K C).isSome && PySem.W.typeIn K (.ref C) == some (.type "type")) = true := by
      rw [h2]
      have : (PySem.W.clsIn K C).isSome = true := h1
      rw [this]; simp
    show (if ((PySem.W.clsIn K C).isSome && PySem.W.typeIn K (.ref C) == some (.type "type")) = true then PySem.W.subIn K t (.ref C) else none) = some false
    rw [if_pos h4, h3]
theorem kit_blt {K : PySem.W.Frag} {T : String} {t : Value} (h1 : PySem.W.kitMeta T = true) (h3 : PySem.W.subIn K t (.type T) = some false) (hne : t ≠ .type T) : PySem.W.kitOne K t (.type T) = some false := by
  unfold PySem.W.kitOne PySem.W.kitCls
  rw [if_neg (by simpa using hne)]
  show (if PySem.W.kitMeta T = true then PySem.W.subIn K t (.type T) else none) = some false
  rw [if_pos h1, h3]
def g_Part_init_2_guarded {α : Type} (vs ds ms zs : List α) : List α := match vs, ds, ms, zs with | [v0, v1], [d0], [], [z0] => [v0, v1, z0] | _, _, _, _ => []
theorem rel_g_Part_init_2_guarded {vs ds ms zs : List V} {us its mv ws : List Value} (r1 : Vals vs us) (r2 : Vals ds its) (r3 : Vals ms mv) (r4 : Vals zs ws) : Vals (g_Part_init_2_guarded vs ds ms zs) (g_Part_init_2_guarded us its mv ws) := by
  cases r1 with
  | nil => exact .nil
  | cons v0 r1 =>
   cases r1 with
   | nil => exact .nil
   | cons v1 r1 =>
    cases r1 with
    | cons _ _ => exact .nil
    | nil =>
     cases r2 with
     | nil => exact .nil
     | cons d0 r2 =>
      cases r2 with
      | cons _ _ => exact .nil
      | nil =>
       cases r3 with
       | cons _ _ => exact .nil
       | nil =>
        cases r4 with
        | nil => exact .nil
        | cons z0 r4 =>
         cases r4 with
         | cons _ _ => exact .nil
         | nil =>
          exact (.cons v0 (.cons v1 (.cons z0 .nil)))
def g_Kind_init_3_own {α : Type} (vs ds ms zs : List α) : List α := match vs, ds, ms, zs with | [v0, v1, v2], [d0], [m0], [z0] => [v0, v1, v2, z0, m0] | _, _, _, _ => []
theorem rel_g_Kind_init_3_own {vs ds ms zs : List V} {us its mv ws : List Value} (r1 : Vals vs us) (r2 : Vals ds its) (r3 : Vals ms mv) (r4 : Vals zs ws) : Vals (g_Kind_init_3_own vs ds ms zs) (g_Kind_init_3_own us its mv ws) := by
  cases r1 with
  | nil => exact .nil
  | cons v0 r1 =>
   cases r1 with
   | nil => exact .nil
   | cons v1 r1 =>
    cases r1 with
    | nil => exact .nil
    | cons v2 r1 =>
     cases r1 with
     | cons _ _ => exact .nil
     | nil =>
      cases r2 with
      | nil => exact .nil
      | cons d0 r2 =>
       cases r2 with
       | cons _ _ => exact .nil
       | nil =>
        cases r3 with
        | nil => exact .nil
        | cons m0 r3 =>
         cases r3 with
         | cons _ _ => exact .nil
         | nil =>
          cases r4 with
          | nil => exact .nil
          | cons z0 r4 =>
           cases r4 with
           | cons _ _ => exact .nil
           | nil =>
            exact (.cons v0 (.cons v1 (.cons v2 (.cons z0 (.cons m0 .nil)))))
def g_Kind_init_3_own_begin {α : Type} (vs ds ms zs : List α) : List α := match vs, ds, ms, zs with | [v0, v1, v2], [d0], [], [z0, z1] => [v0, v1, v2, z0, z1] | _, _, _, _ => []
theorem rel_g_Kind_init_3_own_begin {vs ds ms zs : List V} {us its mv ws : List Value} (r1 : Vals vs us) (r2 : Vals ds its) (r3 : Vals ms mv) (r4 : Vals zs ws) : Vals (g_Kind_init_3_own_begin vs ds ms zs) (g_Kind_init_3_own_begin us its mv ws) := by
  cases r1 with
  | nil => exact .nil
  | cons v0 r1 =>
   cases r1 with
   | nil => exact .nil
   | cons v1 r1 =>
    cases r1 with
    | nil => exact .nil
    | cons v2 r1 =>
     cases r1 with
     | cons _ _ => exact .nil
     | nil =>
      cases r2 with
      | nil => exact .nil
      | cons d0 r2 =>
       cases r2 with
       | cons _ _ => exact .nil
       | nil =>
        cases r3 with
        | cons _ _ => exact .nil
        | nil =>
         cases r4 with
         | nil => exact .nil
         | cons z0 r4 =>
          cases r4 with
          | nil => exact .nil
          | cons z1 r4 =>
           cases r4 with
           | cons _ _ => exact .nil
           | nil =>
            exact (.cons v0 (.cons v1 (.cons v2 (.cons z0 (.cons z1 .nil)))))
theorem lk_hit {f : Str} {v : V} {r : List (Str × V)} : List.lookup f ((f, v) :: r) = some v := by simp [List.lookup]
theorem lk_miss {f g : Str} {v : V} {r : List (Str × V)} (h : (f == g) = false) : List.lookup f ((g, v) :: r) = List.lookup f r := by simp [List.lookup, h]
theorem putF_miss {f g : Str} {v x : V} {r : List (Str × V)} (h : ¬ g = f) : putF f v ((g, x) :: r) = (g, x) :: putF f v r := by show (if g = f then _ else _) = _; rw [if_neg h]
theorem putF_nil {f : Str} {v : V} : putF f v [] = [(f, v)] := rfl
theorem putF_lt {f : Str} {v : V} {n : Nat} : ∀ {fs : List (Str × V)}, fs.length < n → (putF f v fs).length < n + 1
  | [], h => by show 1 < n + 1; have : 0 < n := h; omega
  | (g, x) :: r, h => by
    by_cases e : g = f
    · show (if g = f then (g, v) :: r else (g, x) :: putF f v r).length < n + 1
      rw [if_pos e]; have : r.length + 1 < n := h; show r.length + 1 < n + 1; omega
    · rw [putF_miss e]
      have h1 : r.length + 1 < n := h
      have h2 : r.length < n - 1 := by omega
      have := putF_lt (f := f) (v := v) h2
      show (putF f v r).length + 1 < n + 1
      omega
def F_Part (v0 v1 : V) : List (Str × V) := [("up", v0), ("guarded", v1)]
theorem F_Part_up (v0 v1 : V) : (F_Part v0 v1).lookup ("up" : Str) = some v0 := lk_hit
theorem F_Part_guarded (v0 v1 : V) : (F_Part v0 v1).lookup ("guarded" : Str) = some v1 := (lk_miss (by decide +kernel)).trans (lk_hit)
theorem F_Part_no (v0 v1 : V) {m : Str} (h : m ∉ (["up", "guarded"] : List Str)) : (F_Part v0 v1).lookup m = none := (lk_miss (beq_eq_false_iff_ne.mpr fun e => h (by rw [e]; simp))).trans ((lk_miss (beq_eq_false_iff_ne.mpr fun e => h (by rw [e]; simp))).trans (rfl))
theorem F_Part_put (v0 v1 : V) : putF "guarded" v1 (putF "up" v0 (([] : List (Str × V)))) = F_Part v0 v1 := by
  simp only [putF_nil, putF_miss (show ¬ ("up" : Str) = "guarded" by decide +kernel)]
  rfl
def F_Kind (v0 v1 v2 v3 : V) : List (Str × V) := [("name", v0), ("base", v1), ("own", v2), ("begin", v3)]
theorem F_Kind_name (v0 v1 v2 v3 : V) : (F_Kind v0 v1 v2 v3).lookup ("name" : Str) = some v0 := lk_hit
theorem F_Kind_base (v0 v1 v2 v3 : V) : (F_Kind v0 v1 v2 v3).lookup ("base" : Str) = some v1 := (lk_miss (by decide +kernel)).trans (lk_hit)
theorem F_Kind_own (v0 v1 v2 v3 : V) : (F_Kind v0 v1 v2 v3).lookup ("own" : Str) = some v2 := (lk_miss (by decide +kernel)).trans ((lk_miss (by decide +kernel)).trans (lk_hit))
theorem F_Kind_begin (v0 v1 v2 v3 : V) : (F_Kind v0 v1 v2 v3).lookup ("begin" : Str) = some v3 := (lk_miss (by decide +kernel)).trans ((lk_miss (by decide +kernel)).trans ((lk_miss (by decide +kernel)).trans (lk_hit)))
theorem F_Kind_no (v0 v1 v2 v3 : V) {m : Str} (h : m ∉ (["name", "base", "own", "begin"] : List Str)) : (F_Kind v0 v1 v2 v3).lookup m = none := (lk_miss (beq_eq_false_iff_ne.mpr fun e => h (by rw [e]; simp))).trans ((lk_miss (beq_eq_false_iff_ne.mpr fun e => h (by rw [e]; simp))).trans ((lk_miss (beq_eq_false_iff_ne.mpr fun e => h (by rw [e]; simp))).trans ((lk_miss (beq_eq_false_iff_ne.mpr fun e => h (by rw [e]; simp))).trans (rfl))))
theorem F_Kind_put (v0 v1 v2 v3 : V) : putF "begin" v3 (putF "own" v2 (putF "base" v1 (putF "name" v0 (([] : List (Str × V)))))) = F_Kind v0 v1 v2 v3 := by
  simp only [putF_nil, putF_miss (show ¬ ("name" : Str) = "base" by decide +kernel), putF_miss (show ¬ ("name" : Str) = "own" by decide +kernel), putF_miss (show ¬ ("base" : Str) = "own" by decide +kernel), putF_miss (show ¬ ("name" : Str) = "begin" by decide +kernel), putF_miss (show ¬ ("base" : Str) = "begin" by decide +kernel), putF_miss (show ¬ ("own" : Str) = "begin" by decide +kernel)]
  rfl
structure Ad where
  C_Part : Addr
  C_Kind : Addr
  a_mixed : Addr
  d_mixed : FuncData
  a_draw : Addr
  d_draw : FuncData
  a_bag : Addr
  d_bag : FuncData
  a_word : Addr
  d_word : FuncData
  a_short : Addr
  d_short : FuncData
  a_is_name : Addr
  d_is_name : FuncData
  a_is_up : Addr
  d_is_up : FuncData
  a_Part_init : Addr
  d_Part_init : FuncData
  e_Part_init_1 : List Value
  e_Part_init_2 : List Value
  h_Part_init_2_guarded : List Value → List Value → List Value
  a_Part_eq : Addr
  d_Part_eq : FuncData
  a_is_row : Addr
  d_is_row : FuncData
  a_Kind_init : Addr
  d_Kind_init : FuncData
  e_Kind_init_2 : List Value
  h_Kind_init_3_own : List Value → List Value → List Value
  h_Kind_init_3_own_begin : List Value → List Value → List Value
  a_Kind_of : Addr
  d_Kind_of : FuncData
  p_Kind_of : Addr
  a_Kind_row : Addr
  d_Kind_row : FuncData
  a_Kind_eq : Addr
  d_Kind_eq : FuncData
  a_begin : Addr
  d_begin : FuncData
  a_drawn : Addr
  d_drawn : FuncData
  a_built : Addr
  d_built : FuncData
  a_entries : Addr
  d_entries : FuncData
  a_law : Addr
  d_law : FuncData
  t_LETTERS : Tok
  t_MOST_LETTERS : Tok
  w_UPS : Addr
structure Tx (K : PySem.W.Frag) (mg : Str → Option Value) (ad : Ad) : Prop where
  F_mixed : Fun K "_law_mixed" "_law_mixed" s_mixed ad.a_mixed ad.d_mixed
  g_mixed : mg "_law_mixed" = some (.ref ad.a_mixed)
  b_mixed : Binds K ad.d_mixed ["_law_seed", "_law_count"] []
  F_draw : Fun K "_law_draw" "_law_draw" s_draw ad.a_draw ad.d_draw
  g_draw : mg "_law_draw" = some (.ref ad.a_draw)
  b_draw : Binds K ad.d_draw ["_law_bag_here", "_law_limit"] []
  F_bag : Fun K "_law_bag" "_law_bag" s_bag ad.a_bag ad.d_bag
  g_bag : mg "_law_bag" = some (.ref ad.a_bag)
  b_bag : Binds K ad.d_bag ["_law_script"] []
  F_word : Fun K "_law_word" "_law_word" s_word ad.a_word ad.d_word
  g_word : mg "_law_word" = some (.ref ad.a_word)
  b_word : Binds K ad.d_word ["_law_bag_here"] []
  F_short : Fun K "_law_short" "_law_short" s_short ad.a_short ad.d_short
  g_short : mg "_law_short" = some (.ref ad.a_short)
  b_short : Binds K ad.d_short ["_law_bag_here"] []
  F_is_name : Fun K "is_name" "is_name" s_is_name ad.a_is_name ad.d_is_name
  g_is_name : mg "is_name" = some (.ref ad.a_is_name)
  b_is_name : Binds K ad.d_is_name ["thing"] []
  F_is_up : Fun K "is_up" "is_up" s_is_up ad.a_is_up ad.d_is_up
  g_is_up : mg "is_up" = some (.ref ad.a_is_up)
  b_is_up : Binds K ad.d_is_up ["thing"] []
  F_Part_init : Mth K ad.C_Part "__init__" ad.a_Part_init (FunD K "__init__" "Part.__init__" (defArgs s_Part_init) (defBody s_Part_init) (defScope s_Part_init) [.str "first"] [("guarded", .bl false)] ad.a_Part_init ad.d_Part_init)
  v_Part_init_1 : Vals [.str "first", .bl false] ad.e_Part_init_1
  b_Part_init_1 : Binds K ad.d_Part_init ["self", "up", "guarded"] ad.e_Part_init_1
  v_Part_init_2 : Vals [.bl false] ad.e_Part_init_2
  b_Part_init_2 : Binds K ad.d_Part_init ["self", "up", "guarded"] ad.e_Part_init_2
  kb_Part_init_2_guarded : KBn K ad.d_Part_init ["self", "up", "guarded"] 2 ["guarded"] ad.h_Part_init_2_guarded (fun vs zs => g_Part_init_2_guarded vs [.str "first"] [] zs)
  F_Part_eq : Mth K ad.C_Part "__eq__" ad.a_Part_eq (Fun K "__eq__" "Part.__eq__" s_Part_eq ad.a_Part_eq ad.d_Part_eq)
  b_Part_eq : Binds K ad.d_Part_eq ["self", "other"] []
  F_is_row : Fun K "is_row" "is_row" s_is_row ad.a_is_row ad.d_is_row
  g_is_row : mg "is_row" = some (.ref ad.a_is_row)
  b_is_row : Binds K ad.d_is_row ["thing"] []
  F_Kind_init : Mth K ad.C_Kind "__init__" ad.a_Kind_init (FunD K "__init__" "Kind.__init__" (defArgs s_Kind_init) (defBody s_Kind_init) (defScope s_Kind_init) [.non] [("own", .bl false), ("begin", .non)] ad.a_Kind_init ad.d_Kind_init)
  v_Kind_init_2 : Vals [.non, .bl false, .non] ad.e_Kind_init_2
  b_Kind_init_2 : Binds K ad.d_Kind_init ["self", "name", "base", "own", "begin"] ad.e_Kind_init_2
  kb_Kind_init_3_own : KBn K ad.d_Kind_init ["self", "name", "base", "own", "begin"] 3 ["own"] ad.h_Kind_init_3_own (fun vs zs => g_Kind_init_3_own vs [.non] [.non] zs)
  kb_Kind_init_3_own_begin : KBn K ad.d_Kind_init ["self", "name", "base", "own", "begin"] 3 ["own", "begin"] ad.h_Kind_init_3_own_begin (fun vs zs => g_Kind_init_3_own_begin vs [.non] [] zs)
  F_Kind_of : Fun K "of" "Kind.of" s_Kind_of ad.a_Kind_of ad.d_Kind_of
  cm_Kind_of : ClX.CMet K ad.C_Kind (.type "type") "of" ad.p_Kind_of ad.a_Kind_of
  b_Kind_of : Binds K ad.d_Kind_of ["cls", "row"] []
  F_Kind_row : Mth K ad.C_Kind "row" ad.a_Kind_row (Fun K "row" "Kind.row" s_Kind_row ad.a_Kind_row ad.d_Kind_row)
  b_Kind_row : Binds K ad.d_Kind_row ["self"] []
  F_Kind_eq : Mth K ad.C_Kind "__eq__" ad.a_Kind_eq (Fun K "__eq__" "Kind.__eq__" s_Kind_eq ad.a_Kind_eq ad.d_Kind_eq)
  b_Kind_eq : Binds K ad.d_Kind_eq ["self", "other"] []
  F_begin : Fun K "_law_begin" "_law_begin" s_begin ad.a_begin ad.d_begin
  g_begin : mg "_law_begin" = some (.ref ad.a_begin)
  b_begin : Binds K ad.d_begin ["_law_bag_here"] []
  F_drawn : Fun K "_law_drawn" "_law_drawn" s_drawn ad.a_drawn ad.d_drawn
  g_drawn : mg "_law_drawn" = some (.ref ad.a_drawn)
  b_drawn : Binds K ad.d_drawn ["_law_bag_here"] []
  F_built : Fun K "_law_built" "_law_built" s_built ad.a_built ad.d_built
  g_built : mg "_law_built" = some (.ref ad.a_built)
  b_built : Binds K ad.d_built ["_law_row"] []
  F_entries : Fun K "_law_entries" "_law_entries" s_entries ad.a_entries ad.d_entries
  g_entries : mg "_law_entries" = some (.ref ad.a_entries)
  b_entries : Binds K ad.d_entries ["_law_kd"] []
  F_law : Fun K "law" "law" s_law ad.a_law ad.d_law
  g_law : mg "law" = some (.ref ad.a_law)
  g_Part : mg "Part" = some (.ref ad.C_Part)
  cl_Part : Cls K ad.C_Part
  n_Part_up : NoAttr K ad.C_Part "up"
  n_Part_guarded : NoAttr K ad.C_Part "guarded"
  mk_Part : Mk K ad.C_Part ad.a_Part_init
  eq_Part : PySem.W.findIn K (.ref ad.C_Part) "__eq__" = some (some (.ref ad.a_Part_eq))
  ne_Part : PySem.W.findIn K (.ref ad.C_Part) "__ne__" = some (some (.builtin "object.__ne__"))
  mo_Part : PySem.W.mroIn K ad.C_Part (.type "object") = some true
  ty_Part : ∀ {H : Hp} {a dx : Addr} {fs : List (Str × V)}, H a = some (.ins ad.C_Part dx fs) → TyX K H (.ref a) (.ref ad.C_Part)
  g_Kind : mg "Kind" = some (.ref ad.C_Kind)
  cl_Kind : Cls K ad.C_Kind
  n_Kind_name : NoAttr K ad.C_Kind "name"
  n_Kind_base : NoAttr K ad.C_Kind "base"
  n_Kind_own : NoAttr K ad.C_Kind "own"
  n_Kind_begin : NoAttr K ad.C_Kind "begin"
  mk_Kind : Mk K ad.C_Kind ad.a_Kind_init
  eq_Kind : PySem.W.findIn K (.ref ad.C_Kind) "__eq__" = some (some (.ref ad.a_Kind_eq))
  ne_Kind : PySem.W.findIn K (.ref ad.C_Kind) "__ne__" = some (some (.builtin "object.__ne__"))
  mo_Kind : PySem.W.mroIn K ad.C_Kind (.type "object") = some true
  ty_Kind : ∀ {H : Hp} {a dx : Addr} {fs : List (Str × V)}, H a = some (.ins ad.C_Kind dx fs) → TyX K H (.ref a) (.ref ad.C_Kind)
  cr_Kind : ClX.CRead K ad.C_Kind (.type "type")
  ki_Part_Part : PySem.W.kitOne K (.ref ad.C_Part) (.ref ad.C_Part) = some true
  ki_Kind_Kind : PySem.W.kitOne K (.ref ad.C_Kind) (.ref ad.C_Kind) = some true
  ki_tuple_Part : PySem.W.kitOne K (.type "tuple") (.ref ad.C_Part) = some false
  ki_tuple_Kind : PySem.W.kitOne K (.type "tuple") (.ref ad.C_Kind) = some false
  ki_Kind_Part : PySem.W.kitOne K (.ref ad.C_Kind) (.ref ad.C_Part) = some false
  ki_int_Part : PySem.W.kitOne K (.type "int") (.ref ad.C_Part) = some false
  nf_Part_Part : PySem.W.notFirst K ad.C_Part (.ref ad.C_Part) = true
  nf_Kind_Kind : PySem.W.notFirst K ad.C_Kind (.ref ad.C_Kind) = true
  nf_Part_tuple : PySem.W.notFirst K ad.C_Part (.type "tuple") = true
  nf_Kind_tuple : PySem.W.notFirst K ad.C_Kind (.type "tuple") = true
  nf_Part_Kind : PySem.W.notFirst K ad.C_Part (.ref ad.C_Kind) = true
  nf_Part_int : PySem.W.notFirst K ad.C_Part (.type "int") = true
  c_LETTERS : mg "LETTERS" = some (.str "abcdefghijklmnopqrstuvwxyz" ad.t_LETTERS)
  c_MOST_LETTERS : mg "MOST_LETTERS" = some (.int 8 ad.t_MOST_LETTERS)
  c_UPS : mg "UPS" = some (.ref ad.w_UPS)
  w_UPS : ∀ H : Hp, SqT K H ad.w_UPS [.str "first", .str "last", .str "alone"]
  z_bool : mg "bool" = none
  z_int : mg "int" = none
  z_isinstance : mg "isinstance" = none
  z_len : mg "len" = none
  z_list : mg "list" = none
  z_range : mg "range" = none
  z_str : mg "str" = none
  z_tuple : mg "tuple" = none
section
variable {P : Program} {w : World} {K : PySem.W.Frag} {mg : Str → Option Value} {base : Heap} {ad : Ad}
-- ==== base
/-! ### the bag of draws: H is H0 and, apart from it, the bag at b -/
structure Wd (b : Addr) (H0 H : Hp) : Prop where
  same : Same H0 H
  nb : H0 b = none
  bag : ∃ (c : Addr) (ns : List Int) (seed cnt pos left big : Int), H0 c = none ∧ H c = some (.lst (ns.map V.int)) ∧
    H b = some (.lst [.ref c, .int seed, .int cnt, .int pos, .int left, .int big]) ∧ 0 ≤ pos
theorem upd_none {H : Hp} {a p : Addr} {o : HO} (h : upd H a o p = none) : p ≠ a ∧ H p = none := by
  by_cases e : p = a
  · subst e; rw [upd_same] at h; cases h
  · rw [upd_ne e] at h; exact ⟨e, h⟩
theorem none_upd {H : Hp} {a p : Addr} {o : HO} (n : p ≠ a) (h : H p = none) : upd H a o p = none := by
  rw [upd_ne n]; exact h
theorem Wd.at {b : Addr} {H0 H : Hp} (w : Wd b H0 H) {p : Addr} {o : HO} (h : H0 p = some o) : H p = some o := w.same _ _ h
theorem Wd.set {b D : Addr} {H0 H : Hp} {o o' : HO} (w : Wd b (upd H0 D o) H) : Wd b (upd H0 D o') (upd H D o') := by
  obtain ⟨s, nb, c, ns, sd, cn, ps, l, g, nc, hc, hb, h0⟩ := w
  obtain ⟨e1, n1⟩ := upd_none nb
  obtain ⟨e2, n2⟩ := upd_none nc
  refine ⟨fun p u h => ?_, none_upd e1 n1, c, ns, sd, cn, ps, l, g, none_upd e2 n2, by rw [upd_ne e2]; exact hc, by rw [upd_ne e1]; exact hb, h0⟩
  by_cases e : p = D
  · subst e; rw [upd_same] at h ⊢; exact h
  · rw [upd_ne e] at h ⊢; exact s _ _ (by rw [upd_ne e]; exact h)
theorem Wd.new {b p : Addr} {H0 H : Hp} {o : HO} (w : Wd b H0 H) (n : H p = none) : Wd b (upd H0 p o) (upd H p o) := by
  obtain ⟨s, nb, c, ns, sd, cn, ps, l, g, nc, hc, hb, h0⟩ := w
  have e1 : b ≠ p := ne_of_none hb n
  have e2 : c ≠ p := ne_of_none hc n
  refine ⟨fun q u h => ?_, none_upd e1 nb, c, ns, sd, cn, ps, l, g, none_upd e2 nc, by rw [upd_ne e2]; exact hc, by rw [upd_ne e1]; exact hb, h0⟩
  by_cases e : q = p
  · subst e; rw [upd_same] at h ⊢; exact h
  · rw [upd_ne e] at h ⊢; exact s _ _ h
theorem Wd.less {b : Addr} {H0 H1 H : Hp} (s : Same H0 H1) (w : Wd b H1 H) : Wd b H0 H := by
  obtain ⟨s1, nb, c, ns, sd, cn, ps, l, g, nc, hc, hb, h0⟩ := w
  exact ⟨s.trans s1, s.free nb, c, ns, sd, cn, ps, l, g, s.free nc, hc, hb, h0⟩
theorem same_upd {H : Hp} {p : Addr} {o : HO} (n : H p = none) : Same H (upd H p o) := fun b u h => by
  rw [upd_ne (ne_of_none h n)]; exact h
theorem Wd.free {b : Addr} {H0 H : Hp} (w : Wd b H0 H) {p : Addr} (n : H p = none) : H0 p = none := w.same.free n
theorem Wd.junk {b p : Addr} {H0 H : Hp} {o : HO} (w : Wd b H0 H) (n : H p = none) : Wd b H0 (upd H p o) :=
  (w.new n).less (same_upd (w.free n))
theorem emod_lim {x l : Int} (h : 0 < l) : 0 ≤ x % l ∧ x % l < l := ⟨Int.emod_nonneg _ (by omega), Int.emod_lt_of_pos _ h⟩
theorem atI_pos {α : Type} {xs : List α} {i : Int} (h0 : 0 ≤ i) (h1 : i < xs.length) : ∃ v, atI xs i = some v ∧ v ∈ xs := by
  have h2 : i.toNat < xs.length := by omega
  refine ⟨xs[i.toNat], ?_, List.getElem_mem h2⟩
  unfold atI ixN
  rw [if_pos h0, if_pos h1]
  simp [h2]
theorem Wd.grow {b : Addr} {H0 H H' : Hp} (w : Wd b H0 H) (s : Same H H') : Wd b H0 H' := by
  obtain ⟨s1, nb, c, ns, sd, cn, ps, l, g, nc, hc, hb, h0⟩ := w
  exact ⟨s1.trans s, nb, c, ns, sd, cn, ps, l, g, nc, s _ _ hc, s _ _ hb, h0⟩
theorem iteNot {b : Bool} {A B : Prop} (h : b = true) (q : B) : if (!b) = true then A else B := by rw [h]; exact iteF q
theorem iteNotF {b : Bool} {A B : Prop} (h : b = false) (q : A) : if (!b) = true then A else B := by rw [h]; exact iteT q
theorem iteTr {b : Bool} {A B : Prop} (h : b = true) (q : A) : if b = true then A else B := by rw [h]; exact iteT q
theorem iteFa {b : Bool} {A B : Prop} (h : b = false) (q : B) : if b = true then A else B := by rw [h]; exact iteF q

-- ==== ext
/-! ### own ==, != of instances, against anything -/
theorem ne_bind (self : Value) : bindSpecial (.builtin "object.__ne__") self = pure (.builtin "object.__ne__", [self]) :=
  (Slot.of (T := "object") (name := "__ne__") (owner := "object") (n := "__ne__") (by rw [typeLookup_type, builtinLookup_eq_fast]; kernel_rfl) (by decide +kernel) (by decide +kernel) (by decide +kernel)
    (.inl (by decide +kernel)) (by rw [isSubtype_type]; kernel_rfl)).bind self
section
open PySem.W
variable {prog : Program} {w : World} {A : Around} {E : Value → Shared → Prop} {s : Shared} {K : Frag} {x C f : Addr} {ox : Obj} {od : Option Obj} {b tb : Value}
theorem ne_try {Q : Option Value → Shared → Prop} (hu : A.units + 1 < cLine) (X : K.In s.heap) (I : InstAt s.heap x ox C od)
    (hsn : findIn K (.ref C) "__ne__" = some (some (.builtin "object.__ne__"))) (hse : findIn K (.ref C) "__eq__" = some (some (.ref f))) (hf : isFn K (.ref f) = true) (hm : mroIn K C (.type "object") = some true)
    (h : wpAny (model prog w) A.in1 (call (.ref f) [.ref x, b]) (fun v s' => ∃ k, v = .bool k ∧ Q (some (.bool (!k))) s') E s) :
    wpAny (model prog w) A (tryCompare (.ref x) "__ne__" b) Q E s := by
  obtain ⟨hp, g, d, t, os⟩ := s
  have L0 := I.type (M := model prog w)
  have L1 := looks_mroIn (M := model prog w) X hm
  unfold tryCompare
  refine wpAny_bind ?_
  simp only [callSpecialIfBound?, bindSpecialIfBound?]
  refine wpAny_holding (wpAny_bind (wpAny_bind (wpAny_bind (I.type.here ((looks_findIn X hsn).here ?_)))))
  refine wpAny_bind (wpAny_askSetting (wpAny_ite ?_))
  have fin : wpAny (model prog w) A (call (.builtin "object.__ne__") ([.ref x] ++ [b]) >>= fun v => pure (some v)) (fun r s' => ∃ k, r = some (.bool k) ∧ Q (some (.bool k)) s') E ⟨hp, g, d, t, os⟩ := by
    refine wpAny_bind (wpAny_call (codeAny_call_builtin (by decide +kernel) PySem.F.cmpEntry_ne ?_))
    have args : ∀ sig, Manifest.signature? "object.__ne__" = some sig → Bind.checkArgs "object.__ne__" sig ⟨[.ref x, b], []⟩ = pure () := fun sig e => by
      have ha := PySem.F.cmpArgs_ne (.ref x) b
      simp only [argsOk, e] at ha
      exact ha
    simp only [checkBuiltinCall, PySem.F.cmpKind_ne, PySem.F.cmpSplit_ne]
    refine wpAny_bind ?_
    unfold isInstance
    have hu1 : A.in1.units < cLine := hu
    repeat (fail_if_success (with_reducible refine wpAny_bind (m := callSpecialIfBound? (.ref x) (Str.ofString "__eq__") [b]) ?_)
            first | with_reducible refine wpAny_cRoomFor hu1 ?_ | lk)
    refine wpAny_bind (m := callSpecialIfBound? (.ref x) (Str.ofString "__eq__") [b]) (ifBound_K X I hse hf ?_)
    refine wpAny_mono h (fun v s' hv => ?_) fun _ _ e => e
    obtain ⟨k, rfl, hq⟩ := hv
    refine wpAny_bind (m := truthy (.bool k)) (wpAny_truthy_bool ?_)
    exact wpAny_pure (wpAny_pure ⟨!k, rfl, hq⟩)
  split
  · refine wpAny_bind ?_
    rw [ne_bind]
    refine wpAny_pure (wpAny_pure (wpAny_mono fin (fun r s' hr => ?_) fun _ _ e => e))
    obtain ⟨k, rfl, hq⟩ := hr
    exact wpAny_pure hq
  · refine wpAny_tryCatch (wpAny_bind ?_)
    rw [ne_bind]
    refine wpAny_pure (wpAny_pure (wpAny_mono fin (fun r s' hr => ?_) fun _ _ e => e))
    obtain ⟨k, rfl, hq⟩ := hr
    exact wpAny_pure hq
end
section
open PySem.W
variable {prog : Program} {w : World} {A : Around} {E : Value → Shared → Prop} {s : Shared} {K : Frag} {x C f : Addr} {ox : Obj} {od : Option Obj} {b tb : Value}
theorem ne_cmp {Q : Value → Shared → Prop} (hu : A.units + 1 < cLine) (X : K.In s.heap) (I : InstAt s.heap x ox C od) (hb : Looks (model prog w) s.heap (typeOf b) tb) (hn : notFirst K C tb = true)
    (hsn : findIn K (.ref C) "__ne__" = some (some (.builtin "object.__ne__"))) (hse : findIn K (.ref C) "__eq__" = some (some (.ref f))) (hf : isFn K (.ref f) = true) (hm : mroIn K C (.type "object") = some true)
    (h : wpAny (model prog w) A.in1 (call (.ref f) [.ref x, b]) (fun v s' => ∃ k, v = .bool k ∧ Q (.bool (!k)) s') E s) : wpAny (model prog w) A (richCompare .NotEq (.ref x) b) Q E s := by
  have one : wpAny (model prog w) A (tryCompare (.ref x) (cmpInfo .NotEq).2.1 b) (fun r s' => ∃ v, r = some v ∧ Q v s') E s :=
    ne_try hu X I hsn hse hf hm (wpAny_mono h (fun v s' hv => by obtain ⟨k, rfl, hq⟩ := hv; exact ⟨k, rfl, _, rfl, hq⟩) fun _ _ e => e)
  unfold richCompare
  simp only [oneThing_ref]
  refine wpAny_holding (wpAny_bind (wpAny_cRoomFor (Nat.lt_of_succ_lt hu) ?_))
  refine wpAny_bind (I.type.here (wpAny_bind (hb.here ?_)))
  split
  · rename_i q
    have e : subIn K tb (.ref C) = some false := by
      rcases Bool.or_eq_true_iff.mp hn with e | e
      · rw [beq_iff_eq.mp e] at q; simp at q
      · exact beq_iff_eq.mp e
    refine wpAny_bind ((looks_subIn X e).here ?_)
    simp only [Bool.false_eq_true, if_false]
    refine wpAny_bind (wpAny_mono one (fun r s' z => ?_) fun _ _ e => e)
    obtain ⟨v, rfl, hq⟩ := z
    exact wpAny_pure hq
  · refine wpAny_bind (wpAny_pure ?_)
    simp only [Bool.false_eq_true, if_false]
    refine wpAny_bind (wpAny_mono one (fun r s' z => ?_) fun _ _ e => e)
    obtain ⟨v, rfl, hq⟩ := z
    exact wpAny_pure hq
end
/-- x == y, x an instance of the class at C with its own __eq__, y anything whose type is no class below C -/
def rOwnE (K : PySem.W.Frag) (C : Addr) (sp : Sp) (E : XK) : R2 := fun x y H Q => ∃ a dx fs t, x = .ref a ∧ H a = some (.ins C dx fs) ∧ TyX K H y t ∧ PySem.W.notFirst K C t = true ∧ sp [x, y] H (fun v H' => ∃ k, v = .bl k ∧ Q (.bl k) H') E
def rOwnN (K : PySem.W.Frag) (C : Addr) (sp : Sp) (E : XK) : R2 := fun x y H Q => ∃ a dx fs t, x = .ref a ∧ H a = some (.ins C dx fs) ∧ TyX K H y t ∧ PySem.W.notFirst K C t = true ∧ sp [x, y] H (fun v H' => ∃ k, v = .bl k ∧ Q (.bl (!k)) H') E
section
variable {X : Cx} {CX : CXT} {n : Nat} {C g : Addr} {fd : FuncData} {ps : List Str} {sp : Sp} {E : XK}
theorem op_ownE (hs : PySem.W.findIn X.K (.ref C) "__eq__" = some (some (.ref g))) (hf : PySem.W.isFn X.K (.ref g) = true) (F : FnOk X.prog X.w X.K X.mg X.base CX n g fd ps sp) (hb : Binds X.K fd ps [])
    (hr : Room n X.A) (hx : Passes CX X E) : OpR X (compareOp .Eq) (rOwnE X.K C sp E) := by
  intro pins s σ H x y v u Q I rx ry h
  obtain ⟨a, dx, fs, t, rfl, ha, ty, hn, q⟩ := h
  cases (show v = Value.ref a from rx)
  obtain ⟨mA, O, rr, _⟩ := ins_get I.hok ha
  obtain ⟨od, J, _⟩ := O.look
  obtain ⟨P, Z, p, _⟩ := kit_of I ry ty
  obtain ⟨m, hF⟩ := I.fr
  show wpAny _ _ (richCompare .Eq (.ref a) u) _ _ _
  refine PySem.W.cmp_K (op := .Eq) (tb := t) hr.units0 hF I.ok.mod.kin J (Z.ty _ _ I.kIn p) hn hs hf ?_
  refine wpAny_mono (run_fn (us := [.ref a, u]) (vs := [.ref a, y]) F hr hb .nil hx I (.cons rfl (.cons ry .nil)) q) (fun w s' z => ?_) fun _ _ x => x
  obtain ⟨z', H', I', rz, k, ek, qz⟩ := z
  subst ek
  cases (show w = Value.bool k from rz)
  exact ⟨.bl k, H', I', rfl, qz⟩
theorem op_ownN (hsn : PySem.W.findIn X.K (.ref C) "__ne__" = some (some (.builtin "object.__ne__"))) (hs : PySem.W.findIn X.K (.ref C) "__eq__" = some (some (.ref g))) (hf : PySem.W.isFn X.K (.ref g) = true) (hm : PySem.W.mroIn X.K C (.type "object") = some true)
    (F : FnOk X.prog X.w X.K X.mg X.base CX n g fd ps sp) (hb : Binds X.K fd ps []) (hr : Room (n + 1) X.A) (hx : Passes CX X E) : OpR X (compareOp .NotEq) (rOwnN X.K C sp E) := by
  intro pins s σ H x y v u Q I rx ry h
  obtain ⟨a, dx, fs, t, rfl, ha, ty, hn, q⟩ := h
  cases (show v = Value.ref a from rx)
  obtain ⟨mA, O, rr, _⟩ := ins_get I.hok ha
  obtain ⟨od, J, _⟩ := O.look
  obtain ⟨P, Z, p, _⟩ := kit_of I ry ty
  show wpAny _ _ (richCompare .NotEq (.ref a) u) _ _ _
  have hu : X.A.units + 1 < cLine := by have := hr.units; omega
  refine ne_cmp (tb := t) hu I.kIn J (Z.ty _ _ I.kIn p) hn hsn hs hf hm ?_
  have R := FnOk.raw (dvs := []) F hb .nil
  have q2 : sp ([V.ref a, y] ++ []) H (fun v H' => ∃ k, v = V.bl k ∧ Q (V.bl !k) H') E := q
  refine wpAny_mono (wpAny_call (SlX.run_at (us := [.ref a, u]) (ws := [.ref a, y]) R hr.in1 I.env0.in1 hx I (.cons rfl (.cons ry .nil)) q2)) (fun w s' z => ?_) fun _ _ x => x
  obtain ⟨z', H', I', rz, k, ek, qz⟩ := z
  subst ek
  cases (show w = Value.bool k from rz)
  exact ⟨k, rfl, .bl (!k), H', I', rfl, qz⟩
end
/-! ### cls(e, .., k = v, ..): the class stands in a slot -/
def tMakeL (i : Nat) (C : Addr) (t : TE) : TE := fun σ H Q => σ[i]? = some (some (.ref C)) ∧ t σ H Q
section
variable {X : Cx} {CX : CXT} {k n i : Nat} {f C : Addr} {fd : FuncData} {ps ks : List Str} {sp : Sp} {E : XK} {x : Str} {p pos : Pos} {e : Expr} {es : List Expr} {kws : List Keyword} {t tk : TA} {g : List Value → List Value → List Value} {gV : List V → List V → List V}
theorem pe_makeNL (M : Mk X.K C f) (F : FnOk X.prog X.w X.K X.mg X.base CX k f fd ps sp) (hr : Room (k + 1) X.A) (hN : X.N[i]? = some x) (hv : Vis X.env.scope x) (hb : KBn X.K fd ps (n + 1) ks g gV) (hx : Passes CX X E)
    (ha : PA X (e :: es) t) (hkw : PK X kws tk) (hall : (backToKw pos (keywordEach kws X.env)).all (·.1.isSome) = true := by rfl) (hks : (backToKw pos (keywordEach kws X.env)).filterMap (·.1) = ks := by rfl)
    (hdb : (x == ("__debug__" : Str)) = false := by decide) (hcd : (x == ("__classdict__" : Str)) = false := by decide) (he : starEach (e :: es) X.env = (false, eval e X.env) :: starEach es X.env := by rfl)
    (hpl : ((backTo pos (starEach (e :: es) X.env)).any (·.1) || (backToKw pos (keywordEach kws X.env)).any (·.1.isNone)) = false := by rfl) :
    PE X (.Call (.Name x p) (e :: es) kws pos) (tMakeL i C (tMakeN C n ks.length sp gV E t tk)) := by
  refine ⟨fun pins s σ H Q I h => ?_⟩
  obtain ⟨hi, h⟩ := h
  refine wpAny_Call_Name_kw (thn ((pe_var (pos := p) hN hv hdb hcd).run pins s σ H (fun v H' => v = .ref C ∧ H' = H ∧ tMakeN C n ks.length sp gV E t tk σ H Q) I ⟨_, hi, rfl, rfl, h⟩) fun u s0 hh => ?_)
  obtain ⟨v, H0, I0, rv, ev, eH, h⟩ := hh
  subst ev
  subst eH
  cases (show u = Value.ref C from rv)
  refine PySem.W.callWith_KW (h₀ := X.base) I0.ok.mod.kin M.kp hall (thn (ha.run pos pins s0 σ H0 _ I0 h) fun us s1 ⟨vs, H1, I1, r, q⟩ => ?_) hpl he
  refine thn (hkw.run pos pins s1 σ H1 _ I1 q) fun ws s2 ⟨zs, H2, I2, rz, l1, l2, q2⟩ => ⟨I2.kIn, ?_⟩
  rw [hks]
  exact run_makeN M F hr hb hx I2 r rz l1 l2 q2
end

-- ==== data
/-! ### data -/
mutual
def okd : PyData → Bool
  | .none => true
  | .bool _ => true
  | .int _ => true
  | .str z => decide (z.length ≤ 100000) && PyData.strOk z
  | .list xs => okdL xs
  | .tuple xs => okdL xs
  | .dict _ => false
def okdL : List PyData → Bool
  | [] => true
  | x :: xs => okd x && okdL xs
end
mutual
theorem okd_lay : ∀ d : PyData, okd d = true → d.canLay0 = true
  | .none, _ => rfl
  | .bool _, _ => rfl
  | .int _, _ => rfl
  | .str z, h => by
    unfold okd at h
    rw [Bool.and_eq_true] at h
    show PyData.strOk z = true
    exact h.2
  | .list xs, h => okdL_lay xs h
  | .tuple xs, h => okdL_lay xs h
  | .dict _, h => by cases h
theorem okdL_lay : ∀ ds : List PyData, okdL ds = true → PyData.canLayAll0 ds = true
  | [], _ => rfl
  | x :: xs, h => by
    unfold okdL at h
    rw [Bool.and_eq_true] at h
    show (PyData.canLay0 x && PyData.canLayAll0 xs) = true
    rw [okd_lay x h.1, okdL_lay xs h.2]
    rfl
end
structure OkD (d : PyData) : Prop where
  ok : okd d = true
  dp : d.depth ≤ 60
theorem OkD.shaped {d : PyData} (h : OkD d) : SeqAt.shaped d = true := by
  unfold SeqAt.shaped
  have := h.dp
  rw [okd_lay d h.ok, Bool.true_and]
  exact decide_eq_true (by omega)
theorem okdL_mem : ∀ {ds : List PyData}, okdL ds = true → ∀ d ∈ ds, okd d = true
  | [], _, d, hd => by cases hd
  | x :: xs, h, d, hd => by
    unfold okdL at h
    rw [Bool.and_eq_true] at h
    rcases List.mem_cons.mp hd with e | e
    · rw [e]; exact h.1
    · exact okdL_mem h.2 d e
theorem okdL_of : ∀ {ds : List PyData}, (∀ d ∈ ds, okd d = true) → okdL ds = true
  | [], _ => rfl
  | x :: xs, h => by
    unfold okdL
    rw [h x List.mem_cons_self, okdL_of fun d hd => h d (List.mem_cons_of_mem _ hd)]
    rfl
theorem depth_mem : ∀ {ds : List PyData} {d : PyData}, d ∈ ds → d.depth ≤ PyData.depthAll ds
  | x :: xs, d, hd => by
    show d.depth ≤ max x.depth (PyData.depthAll xs)
    rcases List.mem_cons.mp hd with e | e
    · rw [e]; exact Nat.le_max_left _ _
    · exact Nat.le_trans (depth_mem e) (Nat.le_max_right _ _)
theorem depth_of : ∀ {ds : List PyData} {n : Nat}, (∀ d ∈ ds, d.depth ≤ n) → PyData.depthAll ds ≤ n
  | [], n, _ => Nat.zero_le _
  | x :: xs, n, h => by
    show max x.depth (PyData.depthAll xs) ≤ n
    exact Nat.max_le.mpr ⟨h x List.mem_cons_self, depth_of fun d hd => h d (List.mem_cons_of_mem _ hd)⟩
def tyN : PyData → String
  | .none => "NoneType"
  | .bool _ => "bool"
  | .int _ => "int"
  | .str _ => "str"
  | .list _ => "list"
  | .tuple _ => "tuple"
  | .dict _ => "dict"
def isTy (m : String) : PyData → Bool
  | .none => m == "NoneType"
  | .bool _ => m == "bool" || m == "int"
  | .int _ => m == "int"
  | .str _ => m == "str"
  | .list _ => m == "list"
  | .tuple _ => m == "tuple"
  | .dict _ => m == "dict"
theorem tyx {H : Hp} {x : V} {d : PyData} (h : Dp K H x d) : TyX K H x (.type (tyN d)) := by
  cases h with
  | non => exact .base .non
  | bl b => exact .base (.bl b)
  | int i => exact .base (.int i)
  | str z => exact .base (.str z)
  | lst s _ =>
    rcases s with (h | ⟨o, h⟩) | ⟨o, its, n, hk, hc, _⟩
    · exact .base (.lst h)
    · exact .base (.frz h)
    · exact .kList hk hc
  | tup s _ =>
    rcases s with (h | ⟨o, h⟩) | ⟨o, its, n, hk, hc, _⟩
    · exact .base (.tup h)
    · exact .fTuple h
    · exact .kTuple hk hc
theorem kit_str (d : PyData) : kitB (tyN d) "str" = some (isTy "str" d) := by cases d <;> (simp only [tyN, isTy]; decide +kernel)
theorem kit_int (d : PyData) : kitB (tyN d) "int" = some (isTy "int" d) := by cases d <;> (simp only [tyN, isTy]; decide +kernel)
theorem kit_bool (d : PyData) : kitB (tyN d) "bool" = some (isTy "bool" d) := by cases d <;> (simp only [tyN, isTy]; decide +kernel)
theorem kit_list (d : PyData) : kitB (tyN d) "list" = some (isTy "list" d) := by cases d <;> (simp only [tyN, isTy]; decide +kernel)
theorem kit_tuple (d : PyData) : kitB (tyN d) "tuple" = some (isTy "tuple" d) := by cases d <;> (simp only [tyN, isTy]; decide +kernel)
theorem isi_of {H : Hp} {x : V} {d : PyData} {m : String} {Q : VK} (e : kitB (tyN d) m = some (isTy m d)) (h : Dp K H x d) (q : Q (.bl (isTy m d)) H) : rIsi K [x, .ty m] H Q :=
  ⟨x, .ty m, .type (tyN d), .type m, isTy m d, rfl, .ty m, tyx h, kit_ty e, q⟩
/-- what stands in H0 stands in a greater one -/
theorem sqL_mono {H H' : Hp} {a : Addr} {xs : List V} (s : Same H H') (h : SqL K H a xs) : SqL K H' a xs := s.seq h
theorem sqT_mono {H H' : Hp} {a : Addr} {xs : List V} (e : Same H H') (h : SqT K H a xs) : SqT K H' a xs := by
  rcases h with (h | ⟨o, h⟩) | h
  · exact .inl (.inl (e _ _ h))
  · exact .inl (.inr ⟨o, e _ _ h⟩)
  · exact .inr h
mutual
theorem Dp.mono {H H' : Hp} (s : Same H H') : ∀ {d : PyData} {v : V}, Dp K H v d → Dp K H' v d
  | .none, _, .non => .non
  | .bool _, _, .bl b => .bl b
  | .int _, _, .int i => .int i
  | .str _, _, .str z => .str z
  | .list _, _, .lst a b => .lst (sqL_mono s a) (DpAll.mono s b)
  | .tuple _, _, .tup a b => .tup (sqT_mono s a) (DpAll.mono s b)
theorem DpAll.mono {H H' : Hp} (s : Same H H') : ∀ {ds : List PyData} {vs : List V}, DpAll K H vs ds → DpAll K H' vs ds
  | [], _, .nil => .nil
  | _ :: _, _, .cons a b => .cons (Dp.mono s a) (DpAll.mono s b)
end
theorem DpAll.strs {H : Hp} : ∀ xs : List Str, DpAll K H (xs.map V.str) (xs.map PyData.str)
  | [] => .nil
  | x :: xs => .cons (.str x) (DpAll.strs xs)
theorem DpAll.get {H : Hp} : ∀ {vs : List V} {ds : List PyData}, DpAll K H vs ds → ∀ {i : Nat} {v : V}, vs[i]? = some v → ∃ d, ds[i]? = some d ∧ Dp K H v d
  | _, _, .nil, i, v, h => by simp at h
  | _, _, .cons a b, 0, v, h => by simp at h; subst h; exact ⟨_, rfl, a⟩
  | _, _, .cons a b, i + 1, v, h => by
    obtain ⟨d, h1, h2⟩ := DpAll.get b (i := i) (v := v) (by simpa using h)
    exact ⟨d, by simpa using h1, h2⟩
theorem DpAll.len {H : Hp} : ∀ {vs : List V} {ds : List PyData}, DpAll K H vs ds → vs.length = ds.length
  | _, _, .nil => rfl
  | _, _, .cons _ b => by simp [DpAll.len b]
/-! ### names -/
def letters : List Nat := ("abcdefghijklmnopqrstuvwxyz" : Str).cps.toList
def isName (z : Str) : Bool := decide (1 ≤ z.length ∧ z.length ≤ 8) && z.cps.toList.all fun c => decide (c ∈ letters)
theorem isName_iff {z : Str} : isName z = true ↔ (1 ≤ z.length ∧ z.length ≤ 8) ∧ ∀ c ∈ z.cps.toList, c ∈ letters := by
  unfold isName
  rw [Bool.and_eq_true, List.all_eq_true]
  simp only [decide_eq_true_eq]
theorem letters_ok : ∀ c ∈ letters, c < 256 := by decide +kernel
theorem name_ok {z : Str} (h : isName z = true) : okd (.str z) = true := by
  obtain ⟨⟨h1, h2⟩, h3⟩ := isName_iff.mp h
  show (decide (z.length ≤ 100000) && PyData.strOk z) = true
  rw [Bool.and_eq_true]
  refine ⟨decide_eq_true (by omega), ?_⟩
  unfold PyData.strOk
  rw [← Array.all_toList, List.all_eq_true]
  intro c hc
  have := letters_ok c (h3 c hc)
  exact decide_eq_true (by omega)

-- ==== mixed
def sp_mixed : Sp := fun vs H Q _ => ∃ s n : Int, vs = [.int s, .int n] ∧ ∀ v, Q (.int v) H
theorem ok_mixed (T : Tx K mg ad) : FnOk P w K mg base CX0 1 ad.a_mixed ad.d_mixed ["_law_seed", "_law_count"] sp_mixed := by
  refine T.F_mixed.ok sc_mixed (fun vs H Q E h => ?_) (fun cdv A outer s H vs Q E hr h => ?_)
  · obtain ⟨s, n, rfl, _⟩ := h; rfl
  · obtain ⟨sd, n, rfl, k⟩ := h
    refine ⟨_, (pss_cons (ps_set (i := 2) sc_mixed.nd rfl (Or.inl rfl) (pe_op op_mod (pe_callTy call_int1 (by rfl) T.z_int (by decide +kernel) (pa_cons (pe_op op_add (pe_op op_add (pe_op op_mul (pv 0) pe_int) (pe_op op_mul (pv 1) pe_int)) pe_int) pa_nil)) pe_int)) (pss_cons (ps_set (i := 3) sc_mixed.nd rfl (Or.inl rfl) (pe_op op_mod (pe_callTy call_int1 (by rfl) T.z_int (by decide +kernel) (pa_cons (pe_op op_add (pe_op op_mul (pv 2) (pv 2)) (pe_op op_mul (pv 1) pe_int)) pa_nil)) pe_int)) (pss_one (ps_ret (pe_op op_fdivW (pv 3) pe_int))))), ?_⟩
    refine ⟨_, rfl, _, _, rfl, rfl, .inr ⟨by decide, by decide⟩, _, rfl, _, _, rfl, rfl, .inr ⟨by decide, by decide⟩, _, _, rfl, rfl, _, _, rfl, rfl, .inl ⟨_, rfl, _, _, rfl, rfl, (show (0 : Int) < 2147483647 by decide), ?_⟩⟩
    have b := emod_lim (x := sd * 48271 + n * 69621 + 11) (l := 2147483647) (by decide)
    generalize (sd * 48271 + n * 69621 + 11) % 2147483647 = o at b
    refine ⟨_, rfl, _, rfl, _, _, rfl, rfl, .inl ⟨by omega, by omega⟩, _, rfl, _, _, rfl, rfl, .inr ⟨by decide, by decide⟩, _, _, rfl, rfl, .inl ⟨_, rfl, _, _, rfl, rfl, (show (0 : Int) < 2147483563 by decide), ?_⟩⟩
    refine ⟨_, rfl, _, _, rfl, rfl, wide_div (b := 2) (by decide) (by decide) (by decide) (by decide), ?_⟩
    exact k _

-- ==== draw
def bagL (c : Addr) (sd cn ps lf bg : Int) : List V := [.ref c, .int sd, .int cn, .int ps, .int lf, .int bg]
structure Bg (b c : Addr) (ns : List Int) (H0 H : Hp) (sd cn ps lf bg : Int) : Prop where
  same : Same H0 H
  nb : H0 b = none
  nc : H0 c = none
  hc : H c = some (.lst (ns.map V.int))
  hb : H b = some (.lst (bagL c sd cn ps lf bg))
theorem Bg.ne {b c : Addr} {ns : List Int} {H0 H : Hp} {sd cn ps lf bg : Int} (w : Bg b c ns H0 H sd cn ps lf bg) : c ≠ b := by
  refine ne_of w.hc w.hb fun e => ?_
  injection e with e
  cases ns with
  | nil => cases e
  | cons n ns => injection e with e1 _; cases e1
theorem Bg.put {b c : Addr} {ns : List Int} {H0 H : Hp} {sd cn ps lf bg : Int} (w : Bg b c ns H0 H sd cn ps lf bg) (sd' cn' ps' lf' bg' : Int) :
    Bg b c ns H0 (upd H b (.lst (bagL c sd' cn' ps' lf' bg'))) sd' cn' ps' lf' bg' :=
  ⟨fun q u h => by rw [upd_ne (ne_of_none h w.nb)]; exact w.same _ _ h, w.nb, w.nc, by rw [upd_ne w.ne]; exact w.hc, upd_same⟩
theorem Bg.wd {b c : Addr} {ns : List Int} {H0 H : Hp} {sd cn ps lf bg : Int} (w : Bg b c ns H0 H sd cn ps lf bg) (h : 0 ≤ ps) : Wd b H0 H :=
  ⟨w.same, w.nb, c, ns, sd, cn, ps, lf, bg, w.nc, w.hc, w.hb, h⟩
def sp_draw : Sp := fun vs H Q _ => ∃ (b : Addr) (H0 : Hp) (l : Int), vs = [.ref b, .int l] ∧ Wd b H0 H ∧ 0 < l ∧ l < 2 ^ 200 ∧ ∀ (v : Int) (H' : Hp), Wd b H0 H' → 0 ≤ v → v < l → Q (.int v) H'
theorem ok_draw (T : Tx K mg ad) : FnOk P w K mg base CX0 2 ad.a_draw ad.d_draw ["_law_bag_here", "_law_limit"] sp_draw := by
  refine T.F_draw.ok sc_draw (fun vs H Q E h => ?_) (fun cdv A outer s H vs Q E hr h => ?_)
  · obtain ⟨b, H0, l, rfl, _⟩ := h; rfl
  · obtain ⟨b, H0, l, rfl, ⟨sm, nb, c, ns, sd, cn, ps, lf, bg, nc, hc, hb, p0⟩, l0, l1, k⟩ := h
    have w : Bg b c ns H0 H sd cn ps lf bg := ⟨sm, nb, nc, hc, hb⟩
    clear sm nb nc hc hb
    have ld : ∀ {g : Int}, CDivW g l := wide_div (b := 200) l0 (by omega) (by decide) (by decide)
    refine ⟨_, (pss_cons (ps_asg (pe_op op_add (pe_ix ix_list (pv 0) pe_int (fun _ _ => rfl)) pe_int) (pg_sub (pv 0) pe_int set_list)) (C8.pss_cut (ps_if (PW.pt (pw_and (pt_cmpR op_eq (pe_ix ix_list (pv 0) pe_int (fun _ _ => rfl)) pe_int (nomark _)) (pw_and1 (pt_cmpR op_lt (pe_ix ix_list (pv 0) pe_int (fun _ _ => rfl)) (pe_callB call_len_seq (by rfl) T.z_len PySem.boot_len (pa_cons (pe_ix ix_list (pv 0) pe_int (fun _ _ => rfl)) pa_nil)) (nomark _))))) (pss_cons (ps_set (i := 2) sc_draw.nd rfl (Or.inl rfl) (pe_ix ix_list (pe_ix ix_list (pv 0) pe_int (fun _ _ => rfl)) (pe_ix ix_list (pv 0) pe_int (fun _ _ => rfl)) (fun _ _ => rfl))) (pss_cons (ps_asg (pe_op op_add (pe_ix ix_list (pv 0) pe_int (fun _ _ => rfl)) pe_int) (pg_sub (pv 0) pe_int set_list)) (pss_cons (ps_if (pt_cmpR op_lt (pv 2) (pe_op op_pow pe_int pe_int) (nomark _)) (pss_one (ps_ret (pe_op op_mod (pe_callTy call_int1 (by rfl) T.z_int (by decide +kernel) (pa_cons (pe_call (ok_mixed T) (hr.mono (by decide)) (by rfl) T.g_mixed T.F_mixed.kp T.b_mixed .nil pass0 (pa_cons (pe_op op_mod (pe_callTy call_int1 (by rfl) T.z_int (by decide +kernel) (pa_cons (pv 2) pa_nil)) pe_int) (pa_cons (pe_ix ix_list (pv 0) pe_int (fun _ _ => rfl)) pa_nil))) pa_nil)) (pv 1)))) pss_nil) (pss_cons (ps_asg pe_int (pg_sub (pv 0) pe_int set_list)) (pss_one (ps_asg (pe_op op_sub (pv 2) (pe_op op_pow pe_int pe_int)) (pg_sub (pv 0) pe_int set_list))))))) pss_nil) (pss_cons (ps_if (pt_cmpR op_gt (pe_ix ix_list (pv 0) pe_int (fun _ _ => rfl)) pe_int (nomark _)) (pss_cons (ps_asg (pe_op op_sub (pe_ix ix_list (pv 0) pe_int (fun _ _ => rfl)) pe_int) (pg_sub (pv 0) pe_int set_list)) (pss_cons (ps_set (i := 3) sc_draw.nd rfl (Or.inl rfl) (pe_op op_mod (pe_callTy call_int1 (by rfl) T.z_int (by decide +kernel) (pa_cons (pe_ix ix_list (pv 0) pe_int (fun _ _ => rfl)) pa_nil)) (pv 1))) (pss_cons (ps_asg (pe_op op_fdivW (pe_ix ix_list (pv 0) pe_int (fun _ _ => rfl)) (pv 1)) (pg_sub (pv 0) pe_int set_list)) (pss_one (ps_ret (pv 3)))))) pss_nil) (pss_one (ps_ret (pe_op op_mod (pe_callTy call_int1 (by rfl) T.z_int (by decide +kernel) (pa_cons (pe_call (ok_mixed T) (hr.mono (by decide)) (by rfl) T.g_mixed T.F_mixed.kp T.b_mixed .nil pass0 (pa_cons (pe_ix ix_list (pv 0) pe_int (fun _ _ => rfl)) (pa_cons (pe_ix ix_list (pv 0) pe_int (fun _ _ => rfl)) pa_nil))) pa_nil)) (pv 1))))))), ?_⟩
    refine ⟨_, rfl, b, _, 2, _, rfl, rfl, SqL.of w.hb, rfl, _, _, rfl, rfl, _, rfl, b, _, 2, 2, rfl, rfl, w.hb, rfl, ?_⟩
    have w1 := w.put sd (cn + 1) ps lf bg
    refine ⟨fun σ H1 => ∃ (cl : Option V) (ps lf bg : Int), σ = [some (.ref b), some (.int l), cl, none] ∧ Bg b c ns H0 H1 sd (cn + 1) ps lf bg ∧ 0 ≤ ps, ?_, ?_⟩
    · refine ⟨_, rfl, b, _, 4, _, rfl, rfl, SqL.of w1.hb, rfl, rfl, _, rfl, ?_⟩
      refine ite2 (fun h4 => ?_) (fun h4 => ?_)
      · refine ⟨_, rfl, b, _, 3, _, rfl, rfl, SqL.of w1.hb, rfl, _, rfl, b, _, 0, _, rfl, rfl, SqL.of w1.hb, rfl, c, _, rfl, .inl (SqL.of w1.hc), _, _, rfl, rfl, _, rfl, ?_⟩
        refine ite2 (fun h3 => ?_) (fun h3 => ⟨_, ps, lf, bg, rfl, w1, p0⟩)
        have h3 := of_decide_eq_true h3
        obtain ⟨v, hv, vm⟩ := atI_pos (xs := ns.map V.int) p0 h3
        obtain ⟨n, _, rfl⟩ := List.mem_map.mp vm
        refine ⟨_, rfl, b, _, 0, _, rfl, rfl, SqL.of w1.hb, rfl, _, rfl, b, _, 3, _, rfl, rfl, SqL.of w1.hb, rfl, c, _, _, _, rfl, rfl, SqL.of w1.hc, hv, ?_⟩
        refine ⟨_, rfl, b, _, 3, _, rfl, rfl, SqL.of w1.hb, rfl, _, _, rfl, rfl, _, rfl, b, _, 3, 3, rfl, rfl, w1.hb, rfl, ?_⟩
        have w2 := w1.put sd (cn + 1) (ps + 1) lf bg
        refine ⟨_, rfl, _, _, rfl, rfl, ⟨by decide, by decide, by decide⟩, _, _, rfl, rfl, _, rfl, ?_⟩
        refine ite2 (fun _ => ?_) (fun _ => ?_)
        · refine ⟨_, rfl, .inl ⟨_, rfl, _, _, rfl, rfl, (show (0 : Int) < 2147483647 by decide), _, rfl, b, _, 2, _, rfl, rfl, SqL.of w2.hb, rfl, _, _, rfl, fun v => .inl ⟨_, rfl, _, rfl, _, _, rfl, rfl, l0, ?_⟩⟩⟩
          exact k _ _ (w2.wd (by omega)) (emod_lim l0).1 (emod_lim l0).2
        · refine ⟨_, rfl, b, _, 4, 4, rfl, rfl, w2.hb, rfl, ?_⟩
          have w3 := w2.put sd (cn + 1) (ps + 1) 40 bg
          refine ⟨_, rfl, _, _, rfl, rfl, ⟨by decide, by decide, by decide⟩, _, _, rfl, rfl, _, rfl, b, _, 5, 5, rfl, rfl, w3.hb, rfl, ?_⟩
          exact ⟨_, ps + 1, 40, _, rfl, w3.put sd (cn + 1) (ps + 1) 40 _, by omega⟩
      · exact iteF ⟨_, ps, lf, bg, rfl, w1, p0⟩
    · rintro σ H1 ⟨cl, ps, lf, bg, rfl, w, p0⟩
      refine ⟨_, rfl, b, _, 4, _, rfl, rfl, SqL.of w.hb, rfl, _, _, rfl, rfl, _, rfl, ?_⟩
      refine ite2 (fun _ => ?_) (fun _ => ?_)
      · refine ⟨_, rfl, b, _, 4, _, rfl, rfl, SqL.of w.hb, rfl, _, _, rfl, rfl, _, rfl, b, _, 4, 4, rfl, rfl, w.hb, rfl, ?_⟩
        have w1 := w.put sd (cn + 1) ps (lf - 1) bg
        refine ⟨_, rfl, b, _, 5, _, rfl, rfl, SqL.of w1.hb, rfl, .inl ⟨_, rfl, _, rfl, _, _, rfl, rfl, l0, ?_⟩⟩
        refine ⟨_, rfl, b, _, 5, _, rfl, rfl, SqL.of w1.hb, rfl, _, rfl, _, _, rfl, rfl, ld, _, rfl, b, _, 5, 5, rfl, rfl, w1.hb, rfl, ?_⟩
        exact ⟨_, rfl, k _ _ ((w1.put sd (cn + 1) ps (lf - 1) (bg / l)).wd p0) (emod_lim l0).1 (emod_lim l0).2⟩
      · refine ⟨_, rfl, b, _, 1, _, rfl, rfl, SqL.of w.hb, rfl, _, rfl, b, _, 2, _, rfl, rfl, SqL.of w.hb, rfl, _, _, rfl, fun v => .inl ⟨_, rfl, _, rfl, _, _, rfl, rfl, l0, ?_⟩⟩
        exact k _ _ (w.wd p0) (emod_lim l0).1 (emod_lim l0).2

-- ==== bag
def sp_bag (K : PySem.W.Frag) : Sp := fun vs H Q _ => ∃ (a : Addr) (ns : List Int), vs = [.ref a] ∧ SqL K H a (ns.map V.int) ∧ ∀ (b : Addr) (H' : Hp), Wd b H H' → Q (.ref b) H'
theorem ok_bag (T : Tx K mg ad) : FnOk P w K mg base CX0 1 ad.a_bag ad.d_bag ["_law_script"] (sp_bag K) := by
  refine T.F_bag.ok sc_bag (fun vs H Q E h => ?_) (fun cdv A outer s H vs Q E hr h => ?_)
  · obtain ⟨a, ns, rfl, _⟩ := h; rfl
  · obtain ⟨a, ns, rfl, hS, k⟩ := h
    refine ⟨_, (pss_cons (ps_set (i := 1) sc_bag.nd rfl (Or.inl rfl) pe_int) (pss_cons (ps_for PassesOwn.never rfl (pi_list (pv 0)) (pg_name (i := 2) sc_bag.nd rfl (Or.inl rfl)) (pss_one (ps_set (i := 1) sc_bag.nd rfl (Or.inl rfl) (pe_op op_mod (pe_callTy call_int1 (by rfl) T.z_int (by decide +kernel) (pa_cons (pe_op op_add (pe_op op_mul (pv 1) pe_int) (pv 2)) pa_nil)) pe_int)))) (pss_one (ps_ret (pe_lst (pa_cons (pe_callTy call_list_of (by rfl) T.z_list (by decide +kernel) (pa_cons (pv 0) pa_nil)) (pa_cons (pv 1) (pa_cons pe_int (pa_cons pe_int (pa_cons pe_int (pa_cons pe_int pa_nil))))))))))), ?_⟩
    refine ⟨_, rfl, a, rfl, ⟨_, hS⟩, for_list (K := K) (a := a) (xs := ns.map V.int) (fun i σ H' => H' = H ∧ ∃ (sd : Int) (c : Option V), σ = [some (.ref a), some (.int sd), c]) ⟨rfl, 7, none, rfl⟩ (fun i σ H' _ h => by rw [h.1]; exact hS) ?_ ?_⟩
    · rintro i x σ H' hi ⟨rfl, sd, c, rfl⟩
      obtain ⟨n, _, rfl⟩ := List.mem_map.mp (List.mem_of_getElem? hi)
      refine ⟨_, rfl, _, _, rfl, rfl, .inr ⟨by decide, by decide⟩, _, rfl, _, _, rfl, rfl, .inl ⟨_, rfl, _, _, rfl, rfl, (show (0 : Int) < 2147483647 by decide), ?_⟩⟩
      exact ⟨rfl, _, _, rfl⟩
    · rintro σ H' ⟨rfl, sd, c, rfl⟩
      refine ⟨_, rfl, a, _, rfl, .inl hS, fun c nc => ⟨_, rfl, (by show 6 ≤ sizeLine; decide), fun b nb => ?_⟩⟩
      obtain ⟨e, nb⟩ := upd_none nb
      have s1 : Same H' (upd H' c (.lst (ns.map V.int))) := same_upd nc
      refine k b _ ⟨s1.trans (same_upd (none_upd e nb)), nb, c, ns, sd, 0, 0, 0, 0, nc, ?_, upd_same, by decide⟩
      rw [upd_ne (Ne.symm e), upd_same]

-- ==== word
/-- a text of one letter -/
def sg (c : Nat) : Str := ⟨#[c]⟩
theorem join_signs : ∀ cs : List Nat, (Txt.join ("" : Str) (cs.map sg)).cps.toList = cs := fun cs => by
  rw [TL.join_eq]
  show TL.tl (Str.join ("" : Str) (cs.map sg)) = cs
  rw [TL.tl_join]
  have e : TL.tl ("" : Str) = [] := by decide +kernel
  rw [e, List.map_map]
  induction cs with
  | nil => rfl
  | cons c r ih =>
    cases r with
    | nil => rfl
    | cons d r =>
      show TL.tl (sg c) ++ ([] ++ TL.joinL [] ((d :: r).map (TL.tl ∘ sg))) = c :: d :: r
      rw [ih]
      rfl
theorem len_list (z : Str) : z.length = z.cps.toList.length := by
  show z.cps.size = _
  simp
def sp_word : Sp := fun vs H Q _ => ∃ (b : Addr) (H0 : Hp), vs = [.ref b] ∧ Wd b H0 H ∧ ∀ (x : Str) (H' : Hp), Wd b H0 H' → isName x = true → Q (.str x) H'
theorem ok_word (T : Tx K mg ad) : FnOk P w K mg base CX0 3 ad.a_word ad.d_word ["_law_bag_here"] sp_word := by
  refine T.F_word.ok sc_word (fun vs H Q E h => ?_) (fun cdv A outer s H vs Q E hr h => ?_)
  · obtain ⟨b, H0, rfl, _⟩ := h; rfl
  · obtain ⟨b, H0, rfl, w, k⟩ := h
    refine ⟨_, (pss_cons (ps_set (i := 1) sc_word.nd rfl (Or.inr rfl) pe_str) (pss_cons (ps_set (i := 2) sc_word.nd rfl (Or.inl rfl) (pe_op op_add pe_int (pe_call (ok_draw T) (hr.mono (by decide)) (by rfl) T.g_draw T.F_draw.kp T.b_draw .nil pass0 (pa_cons (pv 0) (pa_cons pe_int pa_nil))))) (pss_cons (ps_setLc (i := 3) (own := [("_law_k", 4)]) (g := gName 4) (by rfl) sc_word.nd rfl rfl (sw_true rfl rfl rfl (by decide +kernel)) (pi_range1 (by rfl) T.z_range (pa_cons (pv 2) pa_nil)) (blkOk_by (own := [("_law_k", 4)]) (N := N_word) (sc := defScope s_word) (by decide +kernel)) (fun _ _ _ _ _ => (pg_name (i := 4) sc_word.nd rfl (Or.inl rfl))) (fun _ _ _ _ _ => pts_nil) (fun _ _ _ _ _ => (pe_ix ix_str (pv 1) (pe_call (ok_draw T) (hr.mono (by decide)) (by rfl) T.g_draw T.F_draw.kp T.b_draw .nil pass0 (pa_cons (pv 0) (pa_cons pe_int pa_nil))) (fun _ _ => rfl)))) (pss_one (ps_ret (pe_join pe_str (pv 3))))))), ?_⟩
    refine ⟨_, rfl, b, H0, 8, rfl, w, by decide, by decide, fun m H1 w1 m0 m1 => ⟨_, _, rfl, rfl, ?_⟩⟩
    refine ⟨_, rfl, 1 + m, rfl, by omega, by omega, fun D nD => ?_⟩
    refine lc_it (walk_range (lo := 0) (n := (1 + m).toNat)) (fun i H' => ∃ cs : List Nat, cs.length = i ∧ (∀ c ∈ cs, c ∈ letters) ∧ Wd b (upd H0 D (.lst (cs.map fun c => .str (sg c)))) H')
      ⟨[], rfl, (fun c h => by cases h), w1.new nD⟩ (fun _ _ _ _ => trivial) ?_ ?_
    · rintro i x H2 H3 hi ⟨cs, hl, hc, w2⟩ ⟨rfl, rfl⟩
      refine ⟨rfl, ?_⟩
      refine ⟨_, rfl, _, rfl, b, _, 26, rfl, w2, by decide, by decide, fun n H4 w4 n0 n1 => ?_⟩
      obtain ⟨c, h1, h2⟩ := atI_pos (xs := letters) n0 (show n < ((26 : Nat) : Int) from n1)
      refine ⟨_, n, c, rfl, rfl, by decide, h1, _, w4.at upd_same, ?_, cs ++ [c], ?_, ?_, ?_⟩
      · rw [List.length_map]; have : sizeLine = 16777216 := by decide
        omega
      · rw [List.length_append, hl]; rfl
      · intro z hz
        rcases List.mem_append.mp hz with q | q
        · exact hc z q
        · rw [List.mem_singleton.mp q]; exact h2
      · have w5 := w4.set (o' := .lst ((cs ++ [c]).map fun c => V.str (sg c)))
        rw [List.map_append] at w5 ⊢
        exact w5
    · rintro H2 ⟨cs, hl, hc, w2⟩
      have e : cs.map (fun c => V.str (sg c)) = (cs.map sg).map V.str := by rw [List.map_map]; rfl
      refine ⟨⟨_, rfl⟩, _, rfl, _, D, cs.map sg, rfl, rfl, .inl (SqL.of (by rw [← e]; exact w2.at upd_same)), ?_, ?_⟩
      · have e1 : ((cs.map sg).map (·.length)).sum = cs.length := by
          clear hl hc w2 e
          induction cs with
          | nil => rfl
          | cons c r ih => simp only [List.map_cons, List.sum_cons, List.length_cons, ih]; show 1 + r.length = _; omega
        rw [e1]
        show cs.length + (cs.map sg).length * 0 ≤ 16777216
        omega
      · refine k _ _ (w2.less (same_upd (w1.free nD))) ?_
        rw [isName_iff, len_list, join_signs]
        exact ⟨by omega, hc⟩
theorem name1 {c : Nat} (h : c ∈ letters) : isName (sg c) = true := by
  rw [isName_iff, len_list]
  refine ⟨⟨by show 1 ≤ 1; decide, by show 1 ≤ 8; decide⟩, fun z hz => ?_⟩
  rw [List.mem_singleton.mp hz]; exact h
theorem tl_add (x y : Str) : (x ++ y).cps.toList = x.cps.toList ++ y.cps.toList := TL.tl_append x y
theorem len_add (x y : Str) : (x ++ y).length = x.length + y.length := by
  rw [len_list, len_list, len_list, tl_add, List.length_append]
theorem name2 {c d : Nat} (h : c ∈ letters) (h' : d ∈ letters) : isName (sg c ++ sg d) = true := by
  rw [isName_iff, len_list, tl_add]
  refine ⟨⟨by show 1 ≤ 2; decide, by show 2 ≤ 8; decide⟩, fun z hz => ?_⟩
  rcases List.mem_append.mp hz with q | q
  · rw [List.mem_singleton.mp q]; exact h
  · rw [List.mem_singleton.mp q]; exact h'
theorem name_len {x : Str} (h : isName x = true) : 1 ≤ x.length ∧ x.length ≤ 8 := (isName_iff.mp h).1
/-- a list comprehension over range(n) whose items are drawn names -/
theorem lc_names {b D : Addr} {H0 H1 : Hp} {lo : Int} {n : Nat} {g : TG} {te : TE} {vs : List Nat} {σ : St} {Qd : Hp → Prop} (w : Wd b H0 H1) (nD : H1 D = none) (hn : n ≤ 100000)
    (hs : ∀ (acc : List V) (i : Nat) (H' : Hp) (R : VK), Wd b (upd H0 D (.lst acc)) H' → (∀ z H4, isName z = true → Wd b (upd H0 D (.lst acc)) H4 → R (.str z) H4) →
      g (.int (lo + i)) (wipe σ vs) H' fun σ2 H2 => wipe σ2 vs = wipe σ vs ∧ tYes σ2 H2 fun b H3 => if b = true then te σ2 H3 R else False)
    (hd : ∀ (xs : List Str) (H' : Hp), xs.length = n → (∀ x ∈ xs, isName x = true) → Wd b (upd H0 D (.lst (xs.map V.str))) H' → Qd H')
    (hg : ∀ i σ H Q, g (.int (lo + i)) σ H Q = Q (σ.set (vs.getD 0 0) (some (.int (lo + i)))) H) :
    ∃ W : Nat → Nat → Hp → Prop, (∃ m, W 0 m (upd H1 D (.lst []))) ∧ ∀ i m H, W i m H →
      ((Itr lo n).stop i H ∧ Qd H) ∨ ((Itr lo n).go i H ∧ ∃ Nx : Hp → Prop, (∀ H', Nx H' → ∃ m', m' < m ∧ W (i + 1) m' H') ∧ ∀ x H', (Itr lo n).yld i H x H' → g x (wipe σ vs) H' fun σ2 H2 => wipe σ2 vs = wipe σ vs ∧ tYes σ2 H2 fun b H3 =>
        if b = true then te σ2 H3 fun y H4 => ∃ acc, H4 D = some (.lst acc) ∧ acc.length < sizeLine ∧ Nx (upd H4 D (.lst (acc ++ [y]))) else Nx H3) := by
  have z : sizeLine = 16777216 := by decide
  refine lc_it (walk_range (lo := lo) (n := n)) (fun i H' => ∃ xs : List Str, xs.length = i ∧ (∀ x ∈ xs, isName x = true) ∧ Wd b (upd H0 D (.lst (xs.map V.str))) H')
    ⟨[], rfl, (fun c h => by cases h), w.new nD⟩ (fun _ _ _ _ => trivial) ?_ ?_
  · rintro i x H2 H3 hi ⟨xs, hl, hx, w2⟩ ⟨rfl, rfl⟩
    have q := hs (xs.map V.str) i H3 (fun y H4 => ∃ acc, H4 D = some (.lst acc) ∧ acc.length < sizeLine ∧ ∃ xs : List Str, xs.length = i + 1 ∧ (∀ x ∈ xs, isName x = true) ∧ Wd b (upd H0 D (.lst (xs.map V.str))) (upd H4 D (.lst (acc ++ [y])))) w2 ?_
    · rw [hg] at q ⊢
      exact ⟨q.1, q.2⟩
    · intro x H4 nx w4
      refine ⟨_, w4.at upd_same, by rw [List.length_map]; omega, xs ++ [x], by rw [List.length_append, hl]; rfl, ?_, ?_⟩
      · intro y hy
        rcases List.mem_append.mp hy with q | q
        · exact hx y q
        · rw [List.mem_singleton.mp q]; exact nx
      · have w5 := w4.set (o' := .lst ((xs ++ [x]).map V.str))
        rw [List.map_append] at w5 ⊢
        exact w5
  · rintro H2 ⟨xs, hl, hx, w2⟩
    exact hd xs H2 hl hx w2

-- ==== short
def sp_short : Sp := sp_word
theorem letter_at {n : Int} (n0 : 0 ≤ n) (n1 : n < 26) : ∃ c, atI ("abcdefghijklmnopqrstuvwxyz" : Str).cps.toList n = some c ∧ c ∈ letters := atI_pos (xs := letters) n0 (show n < ((26 : Nat) : Int) from n1)
theorem ok_short (T : Tx K mg ad) : FnOk P w K mg base CX0 4 ad.a_short ad.d_short ["_law_bag_here"] sp_short := by
  refine T.F_short.ok sc_short (fun vs H Q E h => ?_) (fun cdv A outer s H vs Q E hr h => ?_)
  · obtain ⟨b, H0, rfl, _⟩ := h; rfl
  · obtain ⟨b, H0, rfl, w, k⟩ := h
    refine ⟨_, (pss_cons (ps_set (i := 1) sc_short.nd rfl (Or.inl rfl) pe_str) (pss_cons (ps_set (i := 2) sc_short.nd rfl (Or.inl rfl) (pe_ix ix_str (pv 1) (pe_call (ok_draw T) (hr.mono (by decide)) (by rfl) T.g_draw T.F_draw.kp T.b_draw .nil pass0 (pa_cons (pv 0) (pa_cons pe_int pa_nil))) (fun _ _ => rfl))) (C8.pss_cut (ps_if (pt_cmpR op_eq (pe_call (ok_draw T) (hr.mono (by decide)) (by rfl) T.g_draw T.F_draw.kp T.b_draw .nil pass0 (pa_cons (pv 0) (pa_cons pe_int pa_nil))) pe_int (nomark _)) (pss_one (ps_set (i := 2) sc_short.nd rfl (Or.inl rfl) (pe_op op_add_str (pv 2) (pe_ix ix_str (pv 1) (pe_call (ok_draw T) (hr.mono (by decide)) (by rfl) T.g_draw T.F_draw.kp T.b_draw .nil pass0 (pa_cons (pv 0) (pa_cons pe_int pa_nil))) (fun _ _ => rfl))))) pss_nil) (pss_cons (ps_if (pt_cmpR op_eq (pe_call (ok_draw T) (hr.mono (by decide)) (by rfl) T.g_draw T.F_draw.kp T.b_draw .nil pass0 (pa_cons (pv 0) (pa_cons pe_int pa_nil))) pe_int (nomark _)) (pss_one (ps_set (i := 2) sc_short.nd rfl (Or.inl rfl) (pe_call (ok_word T) (hr.mono (by decide)) (by rfl) T.g_word T.F_word.kp T.b_word .nil pass0 (pa_cons (pv 0) pa_nil)))) pss_nil) (pss_one (ps_ret (pv 2))))))), ?_⟩
    refine ⟨_, rfl, _, rfl, b, H0, 26, rfl, w, by decide, by decide, fun n H1 w1 n0 n1 => ?_⟩
    obtain ⟨c, h1, h2⟩ := letter_at n0 n1
    refine ⟨_, n, c, rfl, rfl, by decide, h1, ?_⟩
    refine ⟨fun σ H' => ∃ x, σ = [some (.ref b), some (.str "abcdefghijklmnopqrstuvwxyz"), some (.str x)] ∧ isName x = true ∧ Wd b H0 H', ?_, ?_⟩
    · refine ⟨_, rfl, b, H0, 2, rfl, w1, by decide, by decide, fun m H2 w2 m0 m1 => ⟨rfl, _, rfl, ?_⟩⟩
      refine ite2 (fun _ => ?_) (fun _ => ⟨_, rfl, name1 h2, w2⟩)
      refine ⟨_, rfl, _, rfl, _, rfl, b, H0, 26, rfl, w2, by decide, by decide, fun n H3 w3 n0 n1 => ?_⟩
      obtain ⟨d, h3, h4⟩ := letter_at n0 n1
      refine ⟨_, n, d, rfl, rfl, by decide, h3, _, _, rfl, rfl, (by show 2 ≤ sizeLine; decide), ?_⟩
      exact ⟨_, rfl, name2 h2 h4, w3⟩
    · rintro σ H2 ⟨x, rfl, hx, w2⟩
      refine ⟨_, rfl, b, H0, 9, rfl, w2, by decide, by decide, fun m H3 w3 m0 m1 => ⟨rfl, _, rfl, ?_⟩⟩
      refine ite2 (fun _ => ?_) (fun _ => ⟨_, rfl, k _ _ w3 hx⟩)
      exact ⟨_, rfl, b, H0, rfl, w3, fun y H4 w4 hy => ⟨_, rfl, k _ _ w4 hy⟩⟩

-- ==== is_name
def isNameD : PyData → Bool
  | .str z => isName z
  | _ => false
def sp_is_name (K : PySem.W.Frag) : Sp := fun vs H Q _ => ∃ (x : V) (d : PyData), vs = [x] ∧ Dp K H x d ∧ okd d = true ∧ Q (.bl (isNameD d)) H
theorem okd_len {z : Str} (h : okd (.str z) = true) : z.length ≤ 100000 := by
  have h : (decide (z.length ≤ 100000) && PyData.strOk z) = true := h
  rw [Bool.and_eq_true] at h
  exact of_decide_eq_true h.1
theorem isName_bad {z : Str} {c : Nat} {i : Nat} (h : z.cps[i]? = some c) (h' : c ∉ letters) : isName z = false := by
  cases e : isName z with
  | false => rfl
  | true => exact absurd ((isName_iff.mp e).2 c (by simpa using Array.mem_of_getElem? h)) h'
theorem ok_is_name (T : Tx K mg ad) : FnOk P w K mg base CX0 1 ad.a_is_name ad.d_is_name ["thing"] (sp_is_name K) := by
  refine T.F_is_name.ok sc_is_name (fun vs H Q E h => ?_) (fun cdv A outer s H vs Q E hr h => ?_)
  · obtain ⟨x, d, rfl, _⟩ := h; rfl
  · obtain ⟨x, d, rfl, hd, od, k⟩ := h
    refine ⟨_, (pss_cons (ps_if (pt_not (pt_val (pe_callB call_isi (by rfl) T.z_isinstance (by decide +kernel) (pa_cons (pv 0) (pa_cons (pe_bltn (v := .ty "str") (by rfl) T.z_str (by decide +kernel) rfl) pa_nil))))) (pss_one (ps_ret pe_bl)) pss_nil) (pss_cons (ps_if (pt_not (pt_chain op_le op_le pe_int (pe_callB call_len_str (by rfl) T.z_len PySem.boot_len (pa_cons (pv 0) pa_nil)) (pe_glob (v := .int 8) (by rfl) T.c_MOST_LETTERS ⟨_, rfl⟩))) (pss_one (ps_ret pe_bl)) pss_nil) (pss_cons (ps_for PassesOwn.never rfl (pi_str (pv 0)) (pg_name (i := 1) sc_is_name.nd rfl (Or.inl rfl)) (pss_one (ps_if (pt_cmpR op_notIn_sign (pv 1) (pe_glob (v := .str "abcdefghijklmnopqrstuvwxyz") (by rfl) T.c_LETTERS ⟨_, rfl⟩) (by rfl)) (pss_one (ps_ret pe_bl)) pss_nil))) (pss_one (ps_ret pe_bl))))), ?_⟩
    refine ⟨_, rfl, _, _, _, _, _, rfl, .ty _, tyx hd, kit_ty (kit_str d), _, rfl, ?_⟩
    refine ite2 (fun h => ?_) (fun h => ?_)
    · have e : isNameD d = false := by cases d <;> first | rfl | cases h
      rw [e] at k; exact k
    · cases hd with
      | str z =>
        have hl := okd_len od
        have hz : z.length ≤ sizeLine := Nat.le_trans hl (by decide)
        refine ⟨_, rfl, z, rfl, hz, _, _, rfl, rfl, _, rfl, ?_⟩
        have short : ¬ (1 ≤ z.length ∧ z.length ≤ 8) → Q (.bl false) H := fun hn => by
          have e : isNameD (.str z) = false := by
            cases e : isName z with
            | false => exact e
            | true => exact absurd (name_len e) hn
          rw [e] at k; exact k
        refine ite2 (fun h1 => ?_) (fun h1 => ?_)
        · have h1 : (1 : Int) ≤ z.length := of_decide_eq_true h1
          refine ⟨_, _, rfl, rfl, _, rfl, ?_⟩
          refine ite2 (fun h2 => ?_) (fun h2 => ?_)
          · refine short fun hn => ?_
            have h3 : decide ((z.length : Int) ≤ 8) = true := decide_eq_true (by omega)
            rw [h3] at h2; cases h2
          · have h2 : (z.length : Int) ≤ 8 := by
              have q : ¬ (!decide ((z.length : Int) ≤ 8)) = true := h2
              simpa using q
            refine ⟨_, rfl, z, rfl, for_it (walk_str (z := z)) (fun i σ H' => H' = H ∧ (∃ c, σ = [some (.str z), c]) ∧ ∀ j c, j < i → z.cps[j]? = some c → c ∈ letters) ⟨rfl, ⟨none, rfl⟩, fun j c hj => absurd hj (Nat.not_lt_zero _)⟩ (fun _ _ _ _ _ => trivial) ?_ ?_⟩
            · rintro i x σ H1 H2 hi ⟨rfl, ⟨c0, rfl⟩, hj⟩ ⟨rfl, c, hc, rfl⟩
              refine ⟨_, rfl, c, _, rfl, rfl, _, rfl, ?_⟩
              refine ite2 (fun hn => ?_) (fun hn => ?_)
              · have hn : c ∉ letters := by
                  have q : (!decide (c ∈ letters)) = true := hn
                  simpa using q
                have e : isNameD (.str z) = false := isName_bad hc hn
                rw [e] at k; exact k
              · refine ⟨rfl, ⟨_, rfl⟩, fun j c' hlt hc' => ?_⟩
                by_cases ej : j = i
                · subst ej
                  rw [hc] at hc'; cases hc'
                  have q : ¬ (!decide (c ∈ letters)) = true := hn
                  simpa using q
                · exact hj j c' (by omega) hc'
            · rintro σ H1 ⟨rfl, ⟨c0, rfl⟩, hj⟩
              have e : isNameD (.str z) = true := by
                show isName z = true
                rw [isName_iff]
                refine ⟨by omega, fun c hc => ?_⟩
                obtain ⟨j, hj1, hj2⟩ := List.mem_iff_getElem.mp hc
                exact hj j c (by simpa using hj1) (by rw [← hj2]; simp at hj1; simp [hj1])
              rw [e] at k; exact k
        · refine ⟨_, rfl, iteT (short fun hn => h1 (decide_eq_true (by omega)))⟩
      | _ => exact absurd rfl h

-- ==== made
/-! ### new instances -/
/-- all but what stands at p is as it was -/
def Aside (p : Addr) (H H' : Hp) : Prop := ∀ q o, q ≠ p → H q = some o → H' q = some o
theorem aside_refl {p : Addr} {H : Hp} : Aside p H H := fun _ _ _ h => h
theorem aside_upd {p : Addr} {H : Hp} {o : HO} : Aside p H (upd H p o) := fun q u n h => by rw [upd_ne n]; exact h
theorem aside_trans {p : Addr} {H H1 H2 : Hp} (a : Aside p H H1) (b : Aside p H1 H2) : Aside p H H2 := fun q u n h => b q u n (a q u n h)
theorem aside_same {p : Addr} {H H1 : Hp} (a : Same H H1) : Aside p H H1 := fun q u _ h => a q u h
theorem same_made {x dx : Addr} {H H3 : Hp} {o : HO} (nx : H x = none) (nd : H dx = none) (k : Aside x (upd (upd H dx (.own x)) x o) H3) : Same H H3 := fun q u h => by
  have n1 : q ≠ x := ne_of_none h nx
  have n2 : q ≠ dx := ne_of_none h nd
  exact k q u n1 (by rw [upd_ne n1, upd_ne n2]; exact h)
theorem Wd.made {b x dx : Addr} {H0 H H3 : Hp} {o o' : HO} (w : Wd b H0 H) (nx : H x = none) (nd : H dx = none) (k : Aside x (upd (upd H dx (.own x)) x o) H3) (h3 : H3 x = some o') : Wd b (upd H0 x o') H3 := by
  have s := same_made nx nd k
  obtain ⟨s1, nb, c, ns, sd, cn, ps, l, g, nc, hc, hb, h0⟩ := w
  have e1 : b ≠ x := ne_of_none hb nx
  have e2 : c ≠ x := ne_of_none hc nx
  refine ⟨fun q u h => ?_, none_upd e1 nb, c, ns, sd, cn, ps, l, g, none_upd e2 nc, s _ _ hc, s _ _ hb, h0⟩
  by_cases e : q = x
  · subst e; rw [upd_same] at h; rw [← h]; exact h3
  · rw [upd_ne e] at h; exact s _ _ (s1 _ _ h)
/-! ### parts and kinds as data -/
structure KindD where
  name : Str
  base : Option Str
  own : Bool
  begin : Option (Str × Bool)
def obV : Option Str → V
  | none => .non
  | some s => .str s
def obD : Option Str → PyData
  | none => .none
  | some s => .str s
def bgD : Option (Str × Bool) → PyData
  | none => .none
  | some (u, g) => .tuple [.str u, .bool g]
def KindD.row (k : KindD) : PyData := .tuple [.str k.name, obD k.base, .bool k.own, bgD k.begin]
def isUp (u : Str) : Bool := u == "first" || u == "last" || u == "alone"
structure KindD.Good (k : KindD) : Prop where
  name : isName k.name = true
  base : ∀ s, k.base = some s → isName s = true
  begin : ∀ u g, k.begin = some (u, g) → isUp u = true
/-- the begin of a row -/
def BgIs (K : PySem.W.Frag) (H : Hp) (v : V) : Option (Str × Bool) → Prop
  | none => v = .non
  | some (u, g) => ∃ t, v = .ref t ∧ SqT K H t [.str u, .bl g]
theorem BgIs.mono {H H' : Hp} {v : V} {b : Option (Str × Bool)} (s : Same H H') (h : BgIs K H v b) : BgIs K H' v b := by
  cases b with
  | none => exact h
  | some q => obtain ⟨t, e, ht⟩ := h; exact ⟨t, e, sqT_mono s ht⟩
theorem BgIs.dp {H : Hp} {v : V} {b : Option (Str × Bool)} (h : BgIs K H v b) : Dp K H v (bgD b) := by
  cases b with
  | none => cases (show v = .non from h); exact .non
  | some q => obtain ⟨t, rfl, ht⟩ := h; exact .tup ht (.cons (.str _) (.cons (.bl _) .nil))
theorem obV_dp {H : Hp} (b : Option Str) : Dp K H (obV b) (obD b) := by
  cases b with
  | none => exact .non
  | some q => exact .str q
def rowV (k : KindD) (bv : V) : List V := [.str k.name, obV k.base, .bl k.own, bv]
theorem rowV_dp {H : Hp} {k : KindD} {bv : V} (h : BgIs K H bv k.begin) : DpAll K H (rowV k bv) [.str k.name, obD k.base, .bool k.own, bgD k.begin] :=
  .cons (.str _) (.cons (obV_dp _) (.cons (.bl _) (.cons h.dp .nil)))
/-- a Part, or None -/
def PartIs (C : Addr) (H : Hp) (v : V) : Option (Str × Bool) → Prop
  | none => v = .non
  | some (u, g) => ∃ p dx, v = .ref p ∧ H p = some (.ins C dx (F_Part (.str u) (.bl g)))
theorem PartIs.mono {C : Addr} {H H' : Hp} {v : V} {b : Option (Str × Bool)} (s : Same H H') (h : PartIs C H v b) : PartIs C H' v b := by
  cases b with
  | none => exact h
  | some q => obtain ⟨p, dx, e, hp⟩ := h; exact ⟨p, dx, e, s _ _ hp⟩
def KindIs (CK CP : Addr) (H : Hp) (v : V) (k : KindD) : Prop := ∃ p dx bv, v = .ref p ∧ H p = some (.ins CK dx (F_Kind (.str k.name) (obV k.base) (.bl k.own) bv)) ∧ PartIs CP H bv k.begin ∧ k.Good
theorem KindIs.mono {CK CP : Addr} {H H' : Hp} {v : V} {k : KindD} (s : Same H H') (h : KindIs CK CP H v k) : KindIs CK CP H' v k := by
  obtain ⟨p, dx, bv, e, hp, hb, g⟩ := h
  exact ⟨p, dx, bv, e, s _ _ hp, hb.mono s, g⟩
theorem begin_ok {k : KindD} (g : k.Good) : okd (bgD k.begin) = true := by
  cases e : k.begin with
  | none => rfl
  | some q =>
    obtain ⟨u, b⟩ := q
    have h := g.begin u b e
    unfold isUp at h
    have h3 : u = "first" ∨ u = "last" ∨ u = "alone" := by
      simp only [Bool.or_eq_true, beq_iff_eq] at h
      rcases h with (h | h) | h
      · exact .inl h
      · exact .inr (.inl h)
      · exact .inr (.inr h)
    show okdL [.str u, .bool b] = true
    rcases h3 with rfl | rfl | rfl <;> (cases b <;> decide +kernel)
theorem row_ok {k : KindD} (g : k.Good) : OkD k.row := by
  refine ⟨?_, ?_⟩
  · show okdL [.str k.name, obD k.base, .bool k.own, bgD k.begin] = true
    unfold okdL okdL okdL okdL okdL
    rw [name_ok g.name, begin_ok g]
    have : okd (obD k.base) = true := by
      cases e : k.base with
      | none => rfl
      | some s => exact name_ok (g.base s e)
    rw [this]; rfl
  · show max (PyData.depth (.str k.name)) (max (obD k.base).depth (max (PyData.depth (.bool k.own)) (max (bgD k.begin).depth 0))) + 1 ≤ 60
    have h1 : (obD k.base).depth = 0 := by cases k.base <;> rfl
    have h2 : (bgD k.begin).depth ≤ 1 := by
      cases k.begin with
      | none => decide
      | some q => exact Nat.le_refl _
    rw [h1]
    show max 0 (max 0 (max 0 (max (bgD k.begin).depth 0))) + 1 ≤ 60
    omega
/-- a row as a tuple -/
def RowT (K : PySem.W.Frag) (H : Hp) (v : V) (k : KindD) : Prop := ∃ t bv, v = .ref t ∧ SqT K H t (rowV k bv) ∧ BgIs K H bv k.begin
theorem RowT.mono {H H' : Hp} {v : V} {k : KindD} (s : Same H H') (h : RowT K H v k) : RowT K H' v k := by
  obtain ⟨t, bv, e, ht, hb⟩ := h
  exact ⟨t, bv, e, sqT_mono s ht, hb.mono s⟩
theorem RowT.dp {H : Hp} {v : V} {k : KindD} (h : RowT K H v k) : Dp K H v k.row := by
  obtain ⟨t, bv, rfl, ht, hb⟩ := h
  exact .tup ht (rowV_dp hb)

-- ==== is_up
def isUpD : PyData → Bool
  | .str z => isUp z
  | _ => false
def sp_is_up (K : PySem.W.Frag) : Sp := fun vs H Q _ => ∃ (x : V) (d : PyData), vs = [x] ∧ Dp K H x d ∧ Q (.bl (isUpD d)) H
theorem inV_ups (z : Str) : inV (.str z) [.str "first", .str "last", .str "alone"] = isUp z := by
  have e : ∀ a b : Str, eqV (.str a) (.str b) = (b == a) := fun a b => by
    show decide (a = b) = (b == a)
    by_cases h : a = b
    · subst h; simp
    · rw [decide_eq_false h]; exact (beq_eq_false_iff_ne.mpr (Ne.symm h)).symm
  unfold inV isUp
  simp only [List.any_cons, List.any_nil, Bool.or_false, e]
  rw [Bool.or_assoc]
theorem ok_is_up (T : Tx K mg ad) : FnOk P w K mg base CX0 1 ad.a_is_up ad.d_is_up ["thing"] (sp_is_up K) := by
  refine T.F_is_up.ok sc_is_up (fun vs H Q E h => ?_) (fun cdv A outer s H vs Q E hr h => ?_)
  · obtain ⟨x, d, rfl, _⟩ := h; rfl
  · obtain ⟨x, d, rfl, hd, k⟩ := h
    refine ⟨_, (pss_one (ps_ret (pe_and (pe_callB call_isi (by rfl) T.z_isinstance (by decide +kernel) (pa_cons (pv 0) (pa_cons (pe_bltn (v := .ty "str") (by rfl) T.z_str (by decide +kernel) rfl) pa_nil))) (pe_one (pe_cmpR op_in_seq (pv 0) (pe_glob (v := .ref ad.w_UPS) (by rfl) T.c_UPS rfl) (by rfl)))))), ?_⟩
    refine ⟨_, rfl, _, _, _, _, _, rfl, .ty _, tyx hd, kit_ty (kit_str d), _, rfl, ?_⟩
    cases hd with
    | str z =>
      refine iteT ⟨_, rfl, _, _, rfl, .inr (T.w_UPS H), rfl, rfl, ?_⟩
      show Q (.bl (inV (.str z) [.str "first", .str "last", .str "alone"])) H
      rw [inV_ups]; exact k
    | _ => exact k

-- ==== Part_init
def sp_Part_init (C : Addr) : Sp := fun vs H Q _ => ∃ (p dx : Addr) (u : Str) (g : Bool), vs = [.ref p, .str u, .bl g] ∧ H p = some (.ins C dx []) ∧ isUp u = true ∧
  ∀ H', Aside p H H' → H' p = some (.ins C dx (F_Part (.str u) (.bl g))) → Q .non H'
theorem ok_Part_init (T : Tx K mg ad) : FnOk P w K mg base CX0 2 ad.a_Part_init ad.d_Part_init ["self", "up", "guarded"] (sp_Part_init ad.C_Part) := by
  refine T.F_Part_init.F.ok (CX := CX0) sc_Part_init (fun vs H Q E h => ?_) (fun cdv A outer s H vs Q E hr h => ?_)
  · obtain ⟨p, dx, u, g, rfl, _⟩ := h; rfl
  · obtain ⟨p, dx, u, g, rfl, hp, hu, k⟩ := h
    refine ⟨_, (pss_cons (ps_if (pt_not (pt_val (pe_call (ok_is_up T) (hr.mono (by decide)) (by rfl) T.g_is_up T.F_is_up.kp T.b_is_up .nil pass0 (pa_cons (pv 1) pa_nil)))) (pss_one ps_never) pss_nil) (pss_cons (ps_if (pt_not (pt_val (pe_callB call_isi (by rfl) T.z_isinstance (by decide +kernel) (pa_cons (pv 2) (pa_cons (pe_bltn (v := .ty "bool") (by rfl) T.z_bool (by decide +kernel) rfl) pa_nil))))) (pss_one ps_never) pss_nil) (pss_cons (ps_fld (pv 0) (pv 1) rfl) (pss_one (ps_fld (pv 0) (pv 2) rfl))))), ?_⟩
    refine ⟨_, rfl, _, .str u, rfl, .str u, _, rfl, ?_⟩
    have e : isUpD (.str u) = true := hu
    rw [e]
    refine iteF ?_
    refine ⟨_, rfl, _, _, _, _, _, rfl, .ty _, tyx (.bl g), kit_ty (kit_bool (.bool g)), _, rfl, ?_⟩
    refine iteF ?_
    refine ⟨_, rfl, _, rfl, p, ad.C_Part, dx, _, rfl, hp, T.cl_Part, T.n_Part_up, Nat.lt_of_lt_of_le (show ([] : List (Str × V)).length < 900 by decide) (by decide), ?_⟩
    refine ⟨_, rfl, _, rfl, p, ad.C_Part, dx, _, rfl, upd_same, T.cl_Part, T.n_Part_guarded, Nat.lt_of_lt_of_le (putF_lt (show ([] : List (Str × V)).length < 900 by decide)) (by decide), ?_⟩
    refine k _ (aside_trans aside_upd aside_upd) ?_
    rw [upd_same, F_Part_put]

-- ==== Part_eq
def sp_Part_eq (K : PySem.W.Frag) (C : Addr) : Sp := fun vs H Q _ => ∃ (p dx : Addr) (u : Str) (g : Bool) (y : V), vs = [.ref p, y] ∧ H p = some (.ins C dx (F_Part (.str u) (.bl g))) ∧
  ((∃ t, TyX K H y t ∧ PySem.W.kitOne K t (.ref C) = some false ∧ Q (.bl false) H) ∨
   ∃ (q dy : Addr) (u' : Str) (g' : Bool), y = .ref q ∧ H q = some (.ins C dy (F_Part (.str u') (.bl g'))) ∧ Q (.bl (decide (u = u' ∧ g = g'))) H)
theorem ok_Part_eq (T : Tx K mg ad) : FnOk P w K mg base CX0 1 ad.a_Part_eq ad.d_Part_eq ["self", "other"] (sp_Part_eq K ad.C_Part) := by
  refine T.F_Part_eq.F.ok sc_Part_eq (fun vs H Q E h => ?_) (fun cdv A outer s H vs Q E hr h => ?_)
  · obtain ⟨p, dx, u, g, y, rfl, _⟩ := h; rfl
  · obtain ⟨p, dx, u, g, y, rfl, hp, h⟩ := h
    refine ⟨_, (pss_one (ps_ret (pe_and (pe_callB call_isi (by rfl) T.z_isinstance (by decide +kernel) (pa_cons (pv 1) (pa_cons (pe_glob (v := .ref ad.C_Part) (by rfl) T.g_Part rfl) pa_nil))) (pe_and (pe_cmpR op_eq (pe_fld (pv 0) rfl) (pe_fld (pv 1) rfl) (nomark _)) (pe_one (pe_cmpR op_eq (pe_fld (pv 0) rfl) (pe_fld (pv 1) rfl) (nomark _))))))), ?_⟩
    rcases h with ⟨t, ty, kt, k⟩ | ⟨q, dy, u', g', rfl, hq, k⟩
    · exact ⟨_, rfl, _, _, _, _, _, rfl, .own _, ty, kt, _, rfl, k⟩
    · refine ⟨_, rfl, _, _, _, _, _, rfl, .own _, T.ty_Part hq, T.ki_Part_Part, _, rfl, ?_⟩
      refine iteT ⟨_, rfl, p, _, dx, _, _, rfl, hp, T.cl_Part, T.n_Part_up, F_Part_up _ _, _, rfl, q, _, dy, _, _, rfl, hq, T.cl_Part, T.n_Part_up, F_Part_up _ _, rfl, _, rfl, ?_⟩
      by_cases hu : u = u'
      · subst hu
        rw [decide_eq_true (rfl : V.str u = V.str u)]
        refine iteT ⟨_, rfl, p, _, dx, _, _, rfl, hp, T.cl_Part, T.n_Part_guarded, F_Part_guarded _ _, _, rfl, q, _, dy, _, _, rfl, hq, T.cl_Part, T.n_Part_guarded, F_Part_guarded _ _, rfl, ?_⟩
        have e : decide (V.bl g = V.bl g') = decide (u = u ∧ g = g') := by cases g <;> cases g' <;> simp
        show Q (.bl (decide (V.bl g = V.bl g'))) H
        rw [e]; exact k
      · rw [decide_eq_false (show ¬ V.str u = V.str u' from fun e => hu (by injection e))]
        have e : decide (u = u' ∧ g = g') = false := decide_eq_false fun h => hu h.1
        rw [e] at k
        exact iteF k

-- ==== is_row
def isNoneD : PyData → Bool
  | .none => true
  | _ => false
def isBgD : PyData → Bool
  | .none => true
  | .tuple [u, g] => isUpD u && isTy "bool" g
  | _ => false
def isRowD : PyData → Bool
  | .tuple [n, b, o, g] => isNameD n && ((isNoneD b || isNameD b) && (isTy "bool" o && isBgD g))
  | _ => false
theorem non_dp {H : Hp} {x : V} {d : PyData} (h : Dp K H x d) : decide (x = .non) = isNoneD d := by
  cases h <;> first | rfl | exact decide_eq_false (fun e => by cases e)
theorem dpAll2 {H : Hp} {xs : List V} {ds : List PyData} (h : DpAll K H xs ds) (hl : xs.length = 2) : ∃ x1 x2 d1 d2, xs = [x1, x2] ∧ ds = [d1, d2] ∧ Dp K H x1 d1 ∧ Dp K H x2 d2 := by
  cases h with
  | nil => cases hl
  | cons h1 h => cases h with
    | nil => cases hl
    | cons h2 h => cases h with
      | nil => exact ⟨_, _, _, _, rfl, rfl, h1, h2⟩
      | cons _ _ => cases hl
theorem dpAll4 {H : Hp} {xs : List V} {ds : List PyData} (h : DpAll K H xs ds) (hl : xs.length = 4) : ∃ x1 x2 x3 x4 d1 d2 d3 d4, xs = [x1, x2, x3, x4] ∧ ds = [d1, d2, d3, d4] ∧ Dp K H x1 d1 ∧ Dp K H x2 d2 ∧ Dp K H x3 d3 ∧ Dp K H x4 d4 := by
  cases h with
  | nil => cases hl
  | cons h1 h => cases h with
    | nil => cases hl
    | cons h2 h => cases h with
      | nil => cases hl
      | cons h3 h => cases h with
        | nil => cases hl
        | cons h4 h => cases h with
          | nil => exact ⟨_, _, _, _, _, _, _, _, rfl, rfl, h1, h2, h3, h4⟩
          | cons _ _ => cases hl
theorem rowD_len {ds : List PyData} (h : ds.length ≠ 4) : isRowD (.tuple ds) = false := by
  unfold isRowD
  split
  · rename_i e
    injection e with e
    rw [e] at h
    exact absurd rfl h
  · rfl
theorem bgD_len {ds : List PyData} (h : ds.length ≠ 2) : isBgD (.tuple ds) = false := by
  unfold isBgD
  split
  · rename_i e; cases e
  · rename_i e
    injection e with e
    rw [e] at h
    exact absurd rfl h
  · rfl
theorem not_true {b : Bool} (h : ¬ (!b) = true) : b = true := by simpa using h
theorem not_false {b : Bool} (h : (!b) = true) : b = false := by simpa using h
def sp_is_row (K : PySem.W.Frag) : Sp := fun vs H Q _ => ∃ (x : V) (d : PyData), vs = [x] ∧ Dp K H x d ∧ okd d = true ∧ Q (.bl (isRowD d)) H
theorem ok_is_row (T : Tx K mg ad) : FnOk P w K mg base CX0 2 ad.a_is_row ad.d_is_row ["thing"] (sp_is_row K) := by
  refine T.F_is_row.ok sc_is_row (fun vs H Q E h => ?_) (fun cdv A outer s H vs Q E hr h => ?_)
  · obtain ⟨x, d, rfl, _⟩ := h; rfl
  · obtain ⟨x, d, rfl, hd, od, k⟩ := h
    refine ⟨_, (pss_cons (ps_if (PW.pt (pw_or (pt_not (pt_val (pe_callB call_isi (by rfl) T.z_isinstance (by decide +kernel) (pa_cons (pv 0) (pa_cons (pe_bltn (v := .ty "tuple") (by rfl) T.z_tuple (by decide +kernel) rfl) pa_nil))))) (pw_or1 (pt_cmpR op_ne (pe_callB call_len_seq (by rfl) T.z_len PySem.boot_len (pa_cons (pv 0) pa_nil)) pe_int (nomark _))))) (pss_one (ps_ret pe_bl)) pss_nil) (pss_cons (ps_asg (pv 0) (pg_tup rfl (pgs_cons (pg_name (i := 1) sc_is_row.nd rfl (Or.inl rfl)) (pgs_cons (pg_name (i := 2) sc_is_row.nd rfl (Or.inl rfl)) (pgs_cons (pg_name (i := 3) sc_is_row.nd rfl (Or.inl rfl)) (pgs_cons (pg_name (i := 4) sc_is_row.nd rfl (Or.inl rfl)) pgs_nil)))))) (C8.pss_cut (ps_if (PW.pt (pw_or (pt_not (pt_val (pe_call (ok_is_name T) (hr.mono (by decide)) (by rfl) T.g_is_name T.F_is_name.kp T.b_is_name .nil pass0 (pa_cons (pv 1) pa_nil)))) (pw_or (pt_not (PW.pt (pw_or (pt_cmpR op_isN (pv 2) pe_non (nomark _)) (pw_or1 (pt_val (pe_call (ok_is_name T) (hr.mono (by decide)) (by rfl) T.g_is_name T.F_is_name.kp T.b_is_name .nil pass0 (pa_cons (pv 2) pa_nil))))))) (pw_or1 (pt_not (pt_val (pe_callB call_isi (by rfl) T.z_isinstance (by decide +kernel) (pa_cons (pv 3) (pa_cons (pe_bltn (v := .ty "bool") (by rfl) T.z_bool (by decide +kernel) rfl) pa_nil))))))))) (pss_one (ps_ret pe_bl)) pss_nil) (pss_cons (ps_if (pt_cmpR op_isN (pv 4) pe_non (nomark _)) (pss_one (ps_ret pe_bl)) pss_nil) (pss_one (ps_ret (pe_and (pe_callB call_isi (by rfl) T.z_isinstance (by decide +kernel) (pa_cons (pv 4) (pa_cons (pe_bltn (v := .ty "tuple") (by rfl) T.z_tuple (by decide +kernel) rfl) pa_nil))) (pe_and (pe_cmpR op_eq (pe_callB call_len_seq (by rfl) T.z_len PySem.boot_len (pa_cons (pv 4) pa_nil)) pe_int (nomark _)) (pe_and (pe_call (ok_is_up T) (hr.mono (by decide)) (by rfl) T.g_is_up T.F_is_up.kp T.b_is_up .nil pass0 (pa_cons (pe_ix ix_tup (pv 4) pe_int (fun _ _ => rfl)) pa_nil)) (pe_one (pe_callB call_isi (by rfl) T.z_isinstance (by decide +kernel) (pa_cons (pe_ix ix_tup (pv 4) pe_int (fun _ _ => rfl)) (pa_cons (pe_bltn (v := .ty "bool") (by rfl) T.z_bool (by decide +kernel) rfl) pa_nil))))))))))))), ?_⟩
    refine ⟨_, rfl, _, _, _, _, _, rfl, .ty _, tyx hd, kit_ty (kit_tuple d), _, rfl, ?_⟩
    refine ite2 (fun h => ?_) (fun h => ?_)
    · have e : isRowD d = false := by cases d <;> first | rfl | cases h
      rw [e] at k; exact iteT k
    · cases hd with
      | @tup a xs ds hs ha =>
        have el := DpAll.len ha
        refine ⟨_, rfl, a, _, rfl, .inr hs, rfl, _, rfl, ?_⟩
        by_cases hl : xs.length = 4
        · have e : (!decide (V.int ((xs.length : Nat) : Int) = V.int 4)) = false := by rw [hl]; decide
          rw [e]
          refine iteF ?_
          obtain ⟨x1, x2, x3, x4, d1, d2, d3, d4, rfl, rfl, h1, h2, h3, h4⟩ := dpAll4 ha hl
          have o1 : okd d1 = true := okdL_mem od _ (by simp)
          have o2 : okd d2 = true := okdL_mem od _ (by simp)
          refine ⟨_, rfl, a, _, rfl, hs, rfl, _, _, rfl, _, _, rfl, _, _, rfl, _, _, rfl, rfl, ?_⟩
          have er : isRowD (.tuple [d1, d2, d3, d4]) = (isNameD d1 && ((isNoneD d2 || isNameD d2) && (isTy "bool" d3 && isBgD d4))) := rfl
          rw [er] at k
          have bad : ∀ b, (isNameD d1 && ((isNoneD d2 || isNameD d2) && (isTy "bool" d3 && isBgD d4))) = b → b = false → Q (.bl false) H := fun b e e' => by rw [e, e'] at k; exact k
          refine ⟨fun σ H1 => H1 = H ∧ σ = [some (.ref a), some x1, some x2, some x3, some x4] ∧ isNameD d1 = true ∧ (isNoneD d2 || isNameD d2) = true ∧ isTy "bool" d3 = true, ?_, ?_⟩
          · refine ⟨_, rfl, x1, d1, rfl, h1, o1, _, rfl, ?_⟩
            refine ite2 (fun n1 => ?_) (fun n1 => ?_)
            · exact iteT (bad _ (by rw [not_false n1]; rfl) rfl)
            have n1 := not_true n1
            refine ⟨_, rfl, rfl, _, rfl, ?_⟩
            rw [non_dp h2]
            refine ite2 (fun n2 => ?_) (fun n2 => ?_)
            · refine iteF ⟨_, rfl, _, _, _, _, _, rfl, .ty _, tyx h3, kit_ty (kit_bool d3), _, rfl, ?_⟩
              refine ite2 (fun n3 => ?_) (fun n3 => ?_)
              · exact bad _ (by rw [n1, n2, not_false n3]; rfl) rfl
              · exact ⟨rfl, rfl, n1, by rw [n2]; rfl, not_true n3⟩
            · refine ⟨_, rfl, x2, d2, rfl, h2, o2, _, rfl, ?_⟩
              have n2 : isNoneD d2 = false := by simpa using n2
              refine ite2 (fun n4 => ?_) (fun n4 => ?_)
              · exact iteT (bad _ (by rw [n1, n2, not_false n4]; rfl) rfl)
              · refine ⟨_, rfl, _, _, _, _, _, rfl, .ty _, tyx h3, kit_ty (kit_bool d3), _, rfl, ?_⟩
                refine ite2 (fun n3 => ?_) (fun n3 => ?_)
                · exact bad _ (by rw [n1, n2, not_true n4, not_false n3]; rfl) rfl
                · exact ⟨rfl, rfl, n1, by rw [not_true n4, Bool.or_true], not_true n3⟩
          · rintro σ H1 ⟨rfl, rfl, n1, n2, n3⟩
            rw [n1, n2, n3] at k
            have k : Q (.bl (isBgD d4)) H1 := k
            refine ⟨_, rfl, rfl, _, rfl, ?_⟩
            rw [non_dp h4]
            refine ite2 (fun n4 => ?_) (fun n4 => ?_)
            · have e : isBgD d4 = true := by cases d4 <;> first | rfl | cases n4
              rw [e] at k; exact k
            · refine ⟨_, rfl, _, _, _, _, _, rfl, .ty _, tyx h4, kit_ty (kit_tuple d4), _, rfl, ?_⟩
              cases h4 with
              | @tup b ys es hb hbs =>
                have eb := DpAll.len hbs
                refine iteT ⟨_, rfl, b, _, rfl, .inr hb, rfl, _, rfl, ?_⟩
                by_cases hl2 : ys.length = 2
                · have e : decide (V.int ((ys.length : Nat) : Int) = V.int 2) = true := by rw [hl2]; decide
                  rw [e]
                  obtain ⟨y1, y2, e1, e2, rfl, rfl, g1, g2⟩ := dpAll2 hbs hl2
                  refine iteT ⟨_, rfl, b, _, 0, _, rfl, rfl, hb, rfl, y1, e1, rfl, g1, _, rfl, ?_⟩
                  have k : Q (.bl (isUpD e1 && isTy "bool" e2)) H1 := k
                  refine ite2 (fun n5 => ?_) (fun n5 => ?_)
                  · refine ⟨_, rfl, b, _, 1, _, rfl, rfl, hb, rfl, _, _, _, _, _, rfl, .ty _, tyx g2, kit_ty (kit_bool e2), ?_⟩
                    rw [n5] at k; exact k
                  · have n5 : isUpD e1 = false := by simpa using n5
                    rw [n5] at k; exact k
                · have e : decide (V.int ((ys.length : Nat) : Int) = V.int 2) = false := decide_eq_false (fun q => hl2 (by injection q with q; omega))
                  rw [e]
                  rw [bgD_len (by omega)] at k
                  exact iteF k
              | non => exact absurd rfl n4
              | _ => exact iteF k
        · have e : (!decide (V.int ((xs.length : Nat) : Int) = V.int 4)) = true := by
            rw [decide_eq_false (fun q => hl (by injection q with q; omega))]; rfl
          rw [e]
          rw [rowD_len (by omega)] at k
          exact iteT k
      | _ => exact absurd rfl h

-- ==== Kind_init
def sp_Kind_init (C : Addr) : Sp := fun vs H Q _ => ∃ (p dx : Addr) (n : Str) (b : Option Str) (o : Bool) (bv : V), vs = [.ref p, .str n, obV b, .bl o, bv] ∧ H p = some (.ins C dx []) ∧ isName n = true ∧ (∀ s, b = some s → isName s = true) ∧
  ∀ H', Aside p H H' → H' p = some (.ins C dx (F_Kind (.str n) (obV b) (.bl o) bv)) → Q .non H'
theorem ok_Kind_init (T : Tx K mg ad) : FnOk P w K mg base CX0 2 ad.a_Kind_init ad.d_Kind_init ["self", "name", "base", "own", "begin"] (sp_Kind_init ad.C_Kind) := by
  refine T.F_Kind_init.F.ok (CX := CX0) sc_Kind_init (fun vs H Q E h => ?_) (fun cdv A outer s H vs Q E hr h => ?_)
  · obtain ⟨p, dx, n, b, o, bv, rfl, _⟩ := h; rfl
  · obtain ⟨p, dx, n, b, o, bv, rfl, hp, hn, hb, k⟩ := h
    refine ⟨_, (pss_cons (ps_if (pt_not (pt_val (pe_call (ok_is_name T) (hr.mono (by decide)) (by rfl) T.g_is_name T.F_is_name.kp T.b_is_name .nil pass0 (pa_cons (pv 1) pa_nil)))) (pss_one ps_never) pss_nil) (pss_cons (ps_if (PW.pt (pw_and (pt_cmpR op_notN (pv 2) pe_non (nomark _)) (pw_and1 (pt_not (pt_val (pe_call (ok_is_name T) (hr.mono (by decide)) (by rfl) T.g_is_name T.F_is_name.kp T.b_is_name .nil pass0 (pa_cons (pv 2) pa_nil))))))) (pss_one ps_never) pss_nil) (pss_cons (ps_if (pt_not (pt_val (pe_callB call_isi (by rfl) T.z_isinstance (by decide +kernel) (pa_cons (pv 3) (pa_cons (pe_bltn (v := .ty "bool") (by rfl) T.z_bool (by decide +kernel) rfl) pa_nil))))) (pss_one ps_never) pss_nil) (pss_cons (ps_fld (pv 0) (pv 1) rfl) (pss_cons (ps_fld (pv 0) (pv 2) rfl) (pss_cons (ps_fld (pv 0) (pv 3) rfl) (pss_one (ps_fld (pv 0) (pv 4) rfl)))))))), ?_⟩
    refine ⟨_, rfl, _, .str n, rfl, .str n, name_ok hn, _, rfl, ?_⟩
    have e : isNameD (.str n) = true := hn
    rw [e]
    refine iteF ⟨_, rfl, rfl, _, rfl, ?_⟩
    have next : ∀ t : Prop, (t → t) := fun _ h => h
    cases b with
    | none =>
      refine ⟨_, rfl, _, _, _, _, _, rfl, .ty _, tyx (.bl o), kit_ty (kit_bool (.bool o)), _, rfl, iteF ?_⟩
      refine ⟨_, rfl, _, rfl, p, ad.C_Kind, dx, _, rfl, hp, T.cl_Kind, T.n_Kind_name, Nat.lt_of_lt_of_le (show ([] : List (Str × V)).length < 900 by decide) (by decide), ?_⟩
      refine ⟨_, rfl, _, rfl, p, ad.C_Kind, dx, _, rfl, upd_same, T.cl_Kind, T.n_Kind_base, Nat.lt_of_lt_of_le (putF_lt (show ([] : List (Str × V)).length < 900 by decide)) (by decide), ?_⟩
      refine ⟨_, rfl, _, rfl, p, ad.C_Kind, dx, _, rfl, upd_same, T.cl_Kind, T.n_Kind_own, Nat.lt_of_lt_of_le (putF_lt (putF_lt (show ([] : List (Str × V)).length < 900 by decide))) (by decide), ?_⟩
      refine ⟨_, rfl, _, rfl, p, ad.C_Kind, dx, _, rfl, upd_same, T.cl_Kind, T.n_Kind_begin, Nat.lt_of_lt_of_le (putF_lt (putF_lt (putF_lt (show ([] : List (Str × V)).length < 900 by decide)))) (by decide), ?_⟩
      refine k _ (aside_trans (aside_trans (aside_trans aside_upd aside_upd) aside_upd) aside_upd) ?_
      rw [upd_same, F_Kind_put]
    | some z =>
      have hz := hb z rfl
      refine ⟨_, rfl, _, .str z, rfl, .str z, name_ok hz, _, rfl, ?_⟩
      have e : isNameD (.str z) = true := hz
      rw [e]
      refine iteF ?_
      refine ⟨_, rfl, _, _, _, _, _, rfl, .ty _, tyx (.bl o), kit_ty (kit_bool (.bool o)), _, rfl, iteF ?_⟩
      refine ⟨_, rfl, _, rfl, p, ad.C_Kind, dx, _, rfl, hp, T.cl_Kind, T.n_Kind_name, Nat.lt_of_lt_of_le (show ([] : List (Str × V)).length < 900 by decide) (by decide), ?_⟩
      refine ⟨_, rfl, _, rfl, p, ad.C_Kind, dx, _, rfl, upd_same, T.cl_Kind, T.n_Kind_base, Nat.lt_of_lt_of_le (putF_lt (show ([] : List (Str × V)).length < 900 by decide)) (by decide), ?_⟩
      refine ⟨_, rfl, _, rfl, p, ad.C_Kind, dx, _, rfl, upd_same, T.cl_Kind, T.n_Kind_own, Nat.lt_of_lt_of_le (putF_lt (putF_lt (show ([] : List (Str × V)).length < 900 by decide))) (by decide), ?_⟩
      refine ⟨_, rfl, _, rfl, p, ad.C_Kind, dx, _, rfl, upd_same, T.cl_Kind, T.n_Kind_begin, Nat.lt_of_lt_of_le (putF_lt (putF_lt (putF_lt (show ([] : List (Str × V)).length < 900 by decide)))) (by decide), ?_⟩
      refine k _ (aside_trans (aside_trans (aside_trans aside_upd aside_upd) aside_upd) aside_upd) ?_
      rw [upd_same, F_Kind_put]

-- ==== Kind_of
theorem rowD_good {k : KindD} (g : k.Good) : isRowD k.row = true := by
  show (isNameD (.str k.name) && ((isNoneD (obD k.base) || isNameD (obD k.base)) && (isTy "bool" (.bool k.own) && isBgD (bgD k.begin)))) = true
  have h1 : isNameD (.str k.name) = true := g.name
  have h2 : (isNoneD (obD k.base) || isNameD (obD k.base)) = true := by
    cases e : k.base with
    | none => rfl
    | some s => exact g.base s e
  have h3 : isBgD (bgD k.begin) = true := by
    cases e : k.begin with
    | none => rfl
    | some q =>
      obtain ⟨u, b⟩ := q
      show (isUpD (.str u) && isTy "bool" (.bool b)) = true
      rw [show isUpD (.str u) = true from g.begin u b e]; rfl
  rw [h1, h2, h3]; rfl
def sp_Kind_of (K : PySem.W.Frag) (CK CP : Addr) : Sp := fun vs H Q _ => ∃ (x : V) (k : KindD), vs = [.ref CK, x] ∧ RowT K H x k ∧ k.Good ∧ ∀ v H', Same H H' → KindIs CK CP H' v k → Q v H'
theorem ok_Kind_of (T : Tx K mg ad) : FnOk P w K mg base CX0 4 ad.a_Kind_of ad.d_Kind_of ["cls", "row"] (sp_Kind_of K ad.C_Kind ad.C_Part) := by
  refine T.F_Kind_of.ok sc_Kind_of (fun vs H Q E h => ?_) (fun cdv A outer s H vs Q E hr h => ?_)
  · obtain ⟨x, k, rfl, _⟩ := h; rfl
  · obtain ⟨x, k, rfl, hx, g, kk⟩ := h
    obtain ⟨t, bv, rfl, ht, hb⟩ := id hx
    refine ⟨_, (pss_cons (ps_if (pt_not (pt_val (pe_call (ok_is_row T) (hr.mono (by decide)) (by rfl) T.g_is_row T.F_is_row.kp T.b_is_row .nil pass0 (pa_cons (pv 1) pa_nil)))) (pss_one ps_never) pss_nil) (pss_cons (ps_asg (pv 1) (pg_tup rfl (pgs_cons (pg_name (i := 2) sc_Kind_of.nd rfl (Or.inl rfl)) (pgs_cons (pg_name (i := 3) sc_Kind_of.nd rfl (Or.inl rfl)) (pgs_cons (pg_name (i := 4) sc_Kind_of.nd rfl (Or.inl rfl)) (pgs_cons (pg_name (i := 5) sc_Kind_of.nd rfl (Or.inl rfl)) pgs_nil)))))) (pss_cons (ps_if (pt_cmpR op_isN (pv 5) pe_non (nomark _)) (pss_one (ps_ret (pe_makeNL (i := 0) T.mk_Kind (ok_Kind_init T) (hr.mono (by decide)) rfl (Or.inl rfl) T.kb_Kind_init_3_own pass0 (pa_cons (pv 2) (pa_cons (pv 3) pa_nil)) (pk_cons (pv 4) pk_nil)))) pss_nil) (pss_one (ps_ret (pe_makeNL (i := 0) T.mk_Kind (ok_Kind_init T) (hr.mono (by decide)) rfl (Or.inl rfl) T.kb_Kind_init_3_own_begin pass0 (pa_cons (pv 2) (pa_cons (pv 3) pa_nil)) (pk_cons (pv 4) (pk_cons (pe_makeN T.mk_Part (ok_Part_init T) (hr.mono (by decide)) (by rfl) T.g_Part T.kb_Part_init_2_guarded pass0 (pa_cons (pe_ix ix_tup (pv 5) pe_int (fun _ _ => rfl)) pa_nil) (pk_cons (pe_ix ix_tup (pv 5) pe_int (fun _ _ => rfl)) pk_nil)) pk_nil)))))))), ?_⟩
    refine ⟨_, rfl, _, _, rfl, hx.dp, (row_ok g).ok, _, rfl, ?_⟩
    rw [rowD_good g]
    refine iteF ⟨_, rfl, t, _, rfl, ht, rfl, _, _, rfl, _, _, rfl, _, _, rfl, _, _, rfl, rfl, ?_⟩
    refine ⟨_, rfl, rfl, _, rfl, ?_⟩
    cases e : k.begin with
    | none =>
      rw [e] at hb
      cases (show bv = .non from hb)
      refine iteT ⟨rfl, _, rfl, _, rfl, _, rfl, rfl, rfl, fun x dx nx nd ne => ⟨x, dx, k.name, k.base, k.own, .non, rfl, upd_same, g.name, g.base, fun H3 k3 h3 => ⟨rfl, ?_⟩⟩⟩
      exact kk _ _ (same_made nx nd k3) ⟨x, dx, _, rfl, h3, by rw [e]; rfl, g⟩
    | some q =>
      obtain ⟨u, gd⟩ := q
      rw [e] at hb
      obtain ⟨t2, rfl, ht2⟩ := hb
      refine iteF ⟨rfl, _, rfl, _, rfl, _, rfl, ?_⟩
      refine ⟨_, rfl, t2, _, 0, _, rfl, rfl, ht2, rfl, _, rfl, t2, _, 1, _, rfl, rfl, ht2, rfl, rfl, rfl, fun x dx nx nd ne => ⟨x, dx, u, gd, rfl, upd_same, g.begin u gd e, fun H3 k3 h3 => ⟨rfl, ?_⟩⟩⟩
      have s3 := same_made nx nd k3
      refine ⟨rfl, rfl, fun y dy ny ndy ney => ⟨y, dy, k.name, k.base, k.own, .ref x, rfl, upd_same, g.name, g.base, fun H4 k4 h4 => ⟨rfl, ?_⟩⟩⟩
      have s4 := same_made ny ndy k4
      exact kk _ _ (s3.trans s4) ⟨y, dy, _, rfl, h4, by rw [e]; exact ⟨x, dx, rfl, s4 _ _ h3⟩, g⟩

-- ==== Kind_row
def sp_Kind_row (K : PySem.W.Frag) (CK CP : Addr) : Sp := fun vs H Q _ => ∃ (x : V) (k : KindD), vs = [x] ∧ KindIs CK CP H x k ∧ ∀ v H', Same H H' → RowT K H' v k → Q v H'
theorem ok_Kind_row (T : Tx K mg ad) : FnOk P w K mg base CX0 1 ad.a_Kind_row ad.d_Kind_row ["self"] (sp_Kind_row K ad.C_Kind ad.C_Part) := by
  refine T.F_Kind_row.F.ok sc_Kind_row (fun vs H Q E h => ?_) (fun cdv A outer s H vs Q E hr h => ?_)
  · obtain ⟨x, k, rfl, _⟩ := h; rfl
  · obtain ⟨x, k, rfl, ⟨p, dx, bv, rfl, hp, hb, g⟩, kk⟩ := h
    refine ⟨_, (pss_cons (ps_if (pt_cmpR op_isN (pe_fld (pv 0) rfl) pe_non (nomark _)) (pss_one (ps_ret (pe_tup (pa_cons (pe_fld (pv 0) rfl) (pa_cons (pe_fld (pv 0) rfl) (pa_cons (pe_fld (pv 0) rfl) (pa_cons pe_non pa_nil))))))) pss_nil) (pss_one (ps_ret (pe_tup (pa_cons (pe_fld (pv 0) rfl) (pa_cons (pe_fld (pv 0) rfl) (pa_cons (pe_fld (pv 0) rfl) (pa_cons (pe_tup (pa_cons (pe_fld (pe_fld (pv 0) rfl) rfl) (pa_cons (pe_fld (pe_fld (pv 0) rfl) rfl) pa_nil))) pa_nil)))))))), ?_⟩
    refine ⟨_, rfl, p, _, dx, _, _, rfl, hp, T.cl_Kind, T.n_Kind_begin, F_Kind_begin _ _ _ _, rfl, _, rfl, ?_⟩
    cases e : k.begin with
    | none =>
      rw [e] at hb
      cases (show bv = .non from hb)
      refine iteT ⟨_, rfl, p, _, dx, _, _, rfl, hp, T.cl_Kind, T.n_Kind_name, F_Kind_name _ _ _ _, _, rfl, p, _, dx, _, _, rfl, hp, T.cl_Kind, T.n_Kind_base, F_Kind_base _ _ _ _,
        _, rfl, p, _, dx, _, _, rfl, hp, T.cl_Kind, T.n_Kind_own, F_Kind_own _ _ _ _, (by show 4 ≤ sizeLine; decide), fun t nt => ?_⟩
      exact kk _ _ (same_upd nt) ⟨t, .non, rfl, SqT.of upd_same, by rw [e]; rfl⟩
    | some q =>
      obtain ⟨u, gd⟩ := q
      rw [e] at hb
      obtain ⟨p2, d2, rfl, h2⟩ := hb
      refine iteF ⟨_, rfl, p, _, dx, _, _, rfl, hp, T.cl_Kind, T.n_Kind_name, F_Kind_name _ _ _ _, _, rfl, p, _, dx, _, _, rfl, hp, T.cl_Kind, T.n_Kind_base, F_Kind_base _ _ _ _,
        _, rfl, p, _, dx, _, _, rfl, hp, T.cl_Kind, T.n_Kind_own, F_Kind_own _ _ _ _, ?_⟩
      refine ⟨_, rfl, p, _, dx, _, _, rfl, hp, T.cl_Kind, T.n_Kind_begin, F_Kind_begin _ _ _ _, p2, _, d2, _, _, rfl, h2, T.cl_Part, T.n_Part_up, F_Part_up _ _,
        _, rfl, p, _, dx, _, _, rfl, hp, T.cl_Kind, T.n_Kind_begin, F_Kind_begin _ _ _ _, p2, _, d2, _, _, rfl, h2, T.cl_Part, T.n_Part_guarded, F_Part_guarded _ _, (by show 2 ≤ sizeLine; decide), fun t nt => ⟨(by show 4 ≤ sizeLine; decide), fun r nr => ?_⟩⟩
      have s1 : Same H (upd H t (.tup [.str u, .bl gd])) := same_upd nt
      have s2 := same_upd (o := .tup [.str k.name, obV k.base, .bl k.own, .ref t]) nr
      exact kk _ _ (s1.trans s2) ⟨r, .ref t, rfl, SqT.of upd_same, by rw [e]; exact ⟨t, rfl, SqT.of (s2 _ _ upd_same)⟩⟩

-- ==== Kind_eq
def sp_Kind_eq (K : PySem.W.Frag) (CK CP : Addr) : Sp := fun vs H Q _ => ∃ (x y : V) (k : KindD), vs = [x, y] ∧ KindIs CK CP H x k ∧
  ((∃ t, TyX K H y t ∧ PySem.W.kitOne K t (.ref CK) = some false ∧ Q (.bl false) H) ∨ ∃ k', KindIs CK CP H y k' ∧ ∀ H', Same H H' → Q (.bl (PyData.eqv k.row k'.row)) H')
theorem ok_Kind_eq (T : Tx K mg ad) : FnOk P w K mg base CX0 2 ad.a_Kind_eq ad.d_Kind_eq ["self", "other"] (sp_Kind_eq K ad.C_Kind ad.C_Part) := by
  refine T.F_Kind_eq.F.ok sc_Kind_eq (fun vs H Q E h => ?_) (fun cdv A outer s H vs Q E hr h => ?_)
  · obtain ⟨x, y, k, rfl, _⟩ := h; rfl
  · obtain ⟨x, y, k, rfl, hx, h⟩ := h
    refine ⟨_, (pss_one (ps_ret (pe_and (pe_callB call_isi (by rfl) T.z_isinstance (by decide +kernel) (pa_cons (pv 1) (pa_cons (pe_glob (v := .ref ad.C_Kind) (by rfl) T.g_Kind rfl) pa_nil))) (pe_one (pe_cmpR (op_eqD hr.units) (pe_meth0 (pv 0) T.cl_Kind T.F_Kind_row.meth (ok_Kind_row T) (hr.mono (by decide)) T.b_Kind_row .nil pass0) (pe_meth0 (pv 1) T.cl_Kind T.F_Kind_row.meth (ok_Kind_row T) (hr.mono (by decide)) T.b_Kind_row .nil pass0) (nomark _)))))), ?_⟩
    rcases h with ⟨t, ty, kt, q⟩ | ⟨k', hy, q⟩
    · exact ⟨_, rfl, _, _, _, _, _, rfl, .own _, ty, kt, _, rfl, q⟩
    · obtain ⟨p, dx, bv, rfl, hp, hb, g⟩ := id hx
      obtain ⟨p', dx', bv', rfl, hp', hb', g'⟩ := id hy
      refine ⟨_, rfl, _, _, _, _, _, rfl, .own _, T.ty_Kind hp', T.ki_Kind_Kind, _, rfl, ?_⟩
      refine iteT ⟨_, rfl, p, dx, _, rfl, hp, F_Kind_no _ _ _ _ (by decide +kernel), _, k, rfl, hx, fun v H1 s1 r1 => ?_⟩
      refine ⟨_, rfl, p', dx', _, rfl, s1 _ _ hp', F_Kind_no _ _ _ _ (by decide +kernel), _, k', rfl, hy.mono s1, fun v' H2 s2 r2 => ?_⟩
      exact ⟨_, _, (r1.mono s2).dp, r2.dp, (row_ok g).shaped, (row_ok g').shaped, q _ (s1.trans s2)⟩

-- ==== k04_begin
def sp_begin (K : PySem.W.Frag) : Sp := fun vs H Q _ => ∃ (b : Addr) (H0 : Hp), vs = [.ref b] ∧ Wd b H0 H ∧ ∀ (v : V) (bg : Option (Str × Bool)) (H1 H' : Hp), Same H0 H1 → Wd b H1 H' → BgIs K H1 v bg → (∀ u g, bg = some (u, g) → isUp u = true) → Q v H'
theorem ok_begin (T : Tx K mg ad) : FnOk P w K mg base CX0 3 ad.a_begin ad.d_begin ["_law_bag_here"] (sp_begin K) := by
  refine T.F_begin.ok sc_begin (fun vs H Q E h => ?_) (fun cdv A outer s H vs Q E hr h => ?_)
  · obtain ⟨b, H0, rfl, _⟩ := h; rfl
  · obtain ⟨b, H0, rfl, w, k⟩ := h
    refine ⟨_, (pss_cons (ps_set (i := 1) sc_begin.nd rfl (Or.inl rfl) (pe_call (ok_draw T) (hr.mono (by decide)) (by rfl) T.g_draw T.F_draw.kp T.b_draw .nil pass0 (pa_cons (pv 0) (pa_cons pe_int pa_nil)))) (pss_cons (ps_if (pt_cmpR op_eq (pv 1) pe_int (nomark _)) (pss_one (ps_ret pe_non)) pss_nil) (pss_one (ps_ret (pe_tup (pa_cons (pe_ix ix_tup (pe_tup (pa_cons pe_str (pa_cons pe_str (pa_cons pe_str pa_nil)))) (pe_op op_sub (pv 1) pe_int) (fun _ _ => rfl)) (pa_cons (pe_cmpR op_eq (pe_call (ok_draw T) (hr.mono (by decide)) (by rfl) T.g_draw T.F_draw.kp T.b_draw .nil pass0 (pa_cons (pv 0) (pa_cons pe_int pa_nil))) pe_int (nomark _)) pa_nil))))))), ?_⟩
    refine ⟨_, rfl, b, H0, 4, rfl, w, by decide, by decide, fun n H1 w1 n0 n1 => ?_⟩
    refine ⟨_, rfl, rfl, _, rfl, ?_⟩
    refine ite2 (fun _ => ?_) (fun hn => ?_)
    · exact k .non none _ _ (Same.refl _) w1 rfl (fun _ _ e => by cases e)
    have hn : n ≠ 0 := fun e => hn (decide_eq_true (by rw [e]))
    refine ⟨(by show 3 ≤ sizeLine; decide), fun t nt => ⟨_, rfl, _, _, rfl, rfl, ?_⟩⟩
    have wt := w1.new (o := .tup [.str "first", .str "last", .str "alone"]) nt
    obtain ⟨v, h1, h2⟩ := atI_pos (xs := [V.str "first", .str "last", .str "alone"]) (i := n - 1) (by omega) (show n - 1 < ((3 : Nat) : Int) by omega)
    obtain ⟨u, rfl, hu⟩ : ∃ u, v = .str u ∧ isUp u = true := by
      simp only [List.mem_cons, List.not_mem_nil, or_false] at h2
      rcases h2 with rfl | rfl | rfl
      · exact ⟨_, rfl, by decide +kernel⟩
      · exact ⟨_, rfl, by decide +kernel⟩
      · exact ⟨_, rfl, by decide +kernel⟩
    refine ⟨t, _, _, _, rfl, rfl, SqT.of (wt.at upd_same), h1, _, rfl, b, _, 2, rfl, wt, by decide, by decide, fun m H2 w2 m0 m1 => ⟨rfl, (by show 2 ≤ sizeLine; decide), fun p np => ?_⟩⟩
    have s1 : Same H0 (upd H0 t (.tup [.str "first", .str "last", .str "alone"])) := same_upd (w1.free nt)
    have s2 := same_upd (o := .tup [.str u, .bl (decide (V.int m = V.int 1))]) (w2.free np)
    exact k (.ref p) (some (u, decide (V.int m = V.int 1))) _ _ (s1.trans s2) (w2.new np) ⟨p, rfl, SqT.of upd_same⟩ (fun u' g' e => by cases e; exact hu)

-- ==== k04_drawn
def sp_drawn (K : PySem.W.Frag) : Sp := fun vs H Q _ => ∃ (b : Addr) (H0 : Hp), vs = [.ref b] ∧ Wd b H0 H ∧ ∀ (l : Addr) (k : KindD) (bv : V) (H1 H' : Hp), Same H0 H1 → Wd b H1 H' → H1 l = some (.lst (rowV k bv)) → BgIs K H1 bv k.begin → k.Good → Q (.ref l) H'
theorem ok_drawn (T : Tx K mg ad) : FnOk P w K mg base CX0 5 ad.a_drawn ad.d_drawn ["_law_bag_here"] (sp_drawn K) := by
  refine T.F_drawn.ok sc_drawn (fun vs H Q E h => ?_) (fun cdv A outer s H vs Q E hr h => ?_)
  · obtain ⟨b, H0, rfl, _⟩ := h; rfl
  · obtain ⟨b, H0, rfl, w, k⟩ := h
    refine ⟨_, (pss_cons (ps_set (i := 1) sc_drawn.nd rfl (Or.inl rfl) pe_non) (C8.pss_cut (ps_if (pt_cmpR op_gt (pe_call (ok_draw T) (hr.mono (by decide)) (by rfl) T.g_draw T.F_draw.kp T.b_draw .nil pass0 (pa_cons (pv 0) (pa_cons pe_int pa_nil))) pe_int (nomark _)) (pss_one (ps_set (i := 1) sc_drawn.nd rfl (Or.inl rfl) (pe_call (ok_short T) (hr.mono (by decide)) (by rfl) T.g_short T.F_short.kp T.b_short .nil pass0 (pa_cons (pv 0) pa_nil)))) pss_nil) (pss_one (ps_ret (pe_lst (pa_cons (pe_call (ok_short T) (hr.mono (by decide)) (by rfl) T.g_short T.F_short.kp T.b_short .nil pass0 (pa_cons (pv 0) pa_nil)) (pa_cons (pv 1) (pa_cons (pe_cmpR op_eq (pe_call (ok_draw T) (hr.mono (by decide)) (by rfl) T.g_draw T.F_draw.kp T.b_draw .nil pass0 (pa_cons (pv 0) (pa_cons pe_int pa_nil))) pe_int (nomark _)) (pa_cons (pe_call (ok_begin T) (hr.mono (by decide)) (by rfl) T.g_begin T.F_begin.kp T.b_begin .nil pass0 (pa_cons (pv 0) pa_nil)) pa_nil))))))))), ?_⟩
    refine ⟨fun σ H' => ∃ bs : Option Str, σ = [some (.ref b), some (obV bs)] ∧ (∀ s, bs = some s → isName s = true) ∧ Wd b H0 H', ?_, ?_⟩
    · refine ⟨_, rfl, b, H0, 3, rfl, w, by decide, by decide, fun n H1 w1 n0 n1 => ⟨_, _, rfl, rfl, _, rfl, ?_⟩⟩
      refine ite2 (fun _ => ?_) (fun _ => ⟨none, rfl, (fun _ e => by cases e), w1⟩)
      exact ⟨_, rfl, b, H0, rfl, w1, fun x H2 w2 hx => ⟨some x, rfl, (fun s e => by cases e; exact hx), w2⟩⟩
    · rintro σ H1 ⟨bs, rfl, hbs, w1⟩
      refine ⟨_, rfl, b, H0, rfl, w1, fun x H2 w2 hx => ⟨_, rfl, _, rfl, b, H0, 2, rfl, w2, by decide, by decide, fun m H3 w3 m0 m1 => ⟨rfl, ?_⟩⟩⟩
      refine ⟨_, rfl, b, H0, rfl, w3, fun v bg H4 H5 s4 w5 hb hu => ⟨(by show 4 ≤ sizeLine; decide), fun l nl => ?_⟩⟩
      have s5 := same_upd (o := .lst [.str x, obV bs, .bl (decide (V.int m = V.int 1)), v]) (w5.free nl)
      exact k l ⟨x, bs, decide (V.int m = V.int 1), bg⟩ v _ _ (s4.trans s5) (w5.new nl) upd_same (hb.mono s5) ⟨hx, hbs, hu⟩

-- ==== k04_built
def sp_built (K : PySem.W.Frag) (CK CP : Addr) : Sp := fun vs H Q _ => ∃ (a : Addr) (k : KindD) (bv : V), vs = [.ref a] ∧ H a = some (.lst (rowV k bv)) ∧ BgIs K H bv k.begin ∧ k.Good ∧ ∀ v H', Same H H' → KindIs CK CP H' v k → Q v H'
theorem ok_built (T : Tx K mg ad) : FnOk P w K mg base CX0 4 ad.a_built ad.d_built ["_law_row"] (sp_built K ad.C_Kind ad.C_Part) := by
  refine T.F_built.ok sc_built (fun vs H Q E h => ?_) (fun cdv A outer s H vs Q E hr h => ?_)
  · obtain ⟨a, k, bv, rfl, _⟩ := h; rfl
  · obtain ⟨a, k, bv, rfl, ha, hb, g, kk⟩ := h
    refine ⟨_, (pss_cons (ps_set (i := 1) sc_built.nd rfl (Or.inl rfl) pe_non) (C8.pss_cut (ps_if (pt_cmpR op_notN (pe_ix ix_list (pv 0) pe_int (fun _ _ => rfl)) pe_non (nomark _)) (pss_one (ps_set (i := 1) sc_built.nd rfl (Or.inl rfl) (pe_makeN T.mk_Part (ok_Part_init T) (hr.mono (by decide)) (by rfl) T.g_Part T.kb_Part_init_2_guarded pass0 (pa_cons (pe_ix ix_tup (pe_ix ix_list (pv 0) pe_int (fun _ _ => rfl)) pe_int (fun _ _ => rfl)) pa_nil) (pk_cons (pe_ix ix_tup (pe_ix ix_list (pv 0) pe_int (fun _ _ => rfl)) pe_int (fun _ _ => rfl)) pk_nil)))) pss_nil) (pss_one (ps_ret (pe_makeN T.mk_Kind (ok_Kind_init T) (hr.mono (by decide)) (by rfl) T.g_Kind T.kb_Kind_init_3_own_begin pass0 (pa_cons (pe_ix ix_list (pv 0) pe_int (fun _ _ => rfl)) (pa_cons (pe_ix ix_list (pv 0) pe_int (fun _ _ => rfl)) pa_nil)) (pk_cons (pe_ix ix_list (pv 0) pe_int (fun _ _ => rfl)) (pk_cons (pv 1) pk_nil))))))), ?_⟩
    refine ⟨fun σ H' => ∃ pv, σ = [some (.ref a), some pv] ∧ Same H H' ∧ PartIs ad.C_Part H' pv k.begin, ?_, ?_⟩
    · refine ⟨_, rfl, a, _, 3, _, rfl, rfl, SqL.of ha, rfl, rfl, _, rfl, ?_⟩
      cases e : k.begin with
      | none =>
        rw [e] at hb
        cases (show bv = .non from hb)
        exact iteF ⟨.non, rfl, Same.refl _, rfl⟩
      | some q =>
        obtain ⟨u, gd⟩ := q
        rw [e] at hb
        obtain ⟨t2, rfl, ht2⟩ := hb
        refine iteT ⟨_, rfl, a, _, 3, _, rfl, rfl, SqL.of ha, rfl, t2, _, 0, _, rfl, rfl, ht2, rfl, _, rfl, a, _, 3, _, rfl, rfl, SqL.of ha, rfl, t2, _, 1, _, rfl, rfl, ht2, rfl, rfl, rfl, fun x dx nx nd ne => ⟨x, dx, u, gd, rfl, upd_same, g.begin u gd e, fun H3 k3 h3 => ⟨rfl, ?_⟩⟩⟩
        exact ⟨.ref x, rfl, same_made nx nd k3, x, dx, rfl, h3⟩
    · rintro σ H1 ⟨pv, rfl, s1, hp⟩
      refine ⟨_, rfl, a, _, 0, _, rfl, rfl, SqL.of (s1 _ _ ha), rfl, _, rfl, a, _, 1, _, rfl, rfl, SqL.of (s1 _ _ ha), rfl, _, rfl, a, _, 2, _, rfl, rfl, SqL.of (s1 _ _ ha), rfl, _, rfl, rfl, rfl, fun y dy ny ndy ney => ⟨y, dy, k.name, k.base, k.own, pv, rfl, upd_same, g.name, g.base, fun H4 k4 h4 => ⟨rfl, ?_⟩⟩⟩
      have s4 := same_made ny ndy k4
      exact kk _ _ (s1.trans s4) ⟨y, dy, _, rfl, h4, hp.mono s4, g⟩

-- ==== k04_entries
theorem ok_entries (T : Tx K mg ad) : FnOk P w K mg base CX0 1 ad.a_entries ad.d_entries ["_law_kd"] (sp_Kind_row K ad.C_Kind ad.C_Part) := by
  refine T.F_entries.ok sc_entries (fun vs H Q E h => ?_) (fun cdv A outer s H vs Q E hr h => ?_)
  · obtain ⟨x, k, rfl, _⟩ := h; rfl
  · obtain ⟨x, k, rfl, ⟨p, dx, bv, rfl, hp, hb, g⟩, kk⟩ := h
    refine ⟨_, (pss_cons (ps_if (pt_cmpR op_isN (pe_fld (pv 0) rfl) pe_non (nomark _)) (pss_one (ps_ret (pe_tup (pa_cons (pe_fld (pv 0) rfl) (pa_cons (pe_fld (pv 0) rfl) (pa_cons (pe_fld (pv 0) rfl) (pa_cons pe_non pa_nil))))))) pss_nil) (pss_one (ps_ret (pe_tup (pa_cons (pe_fld (pv 0) rfl) (pa_cons (pe_fld (pv 0) rfl) (pa_cons (pe_fld (pv 0) rfl) (pa_cons (pe_tup (pa_cons (pe_fld (pe_fld (pv 0) rfl) rfl) (pa_cons (pe_fld (pe_fld (pv 0) rfl) rfl) pa_nil))) pa_nil)))))))), ?_⟩
    refine ⟨_, rfl, p, _, dx, _, _, rfl, hp, T.cl_Kind, T.n_Kind_begin, F_Kind_begin _ _ _ _, rfl, _, rfl, ?_⟩
    cases e : k.begin with
    | none =>
      rw [e] at hb
      cases (show bv = .non from hb)
      refine iteT ⟨_, rfl, p, _, dx, _, _, rfl, hp, T.cl_Kind, T.n_Kind_name, F_Kind_name _ _ _ _, _, rfl, p, _, dx, _, _, rfl, hp, T.cl_Kind, T.n_Kind_base, F_Kind_base _ _ _ _,
        _, rfl, p, _, dx, _, _, rfl, hp, T.cl_Kind, T.n_Kind_own, F_Kind_own _ _ _ _, (by show 4 ≤ sizeLine; decide), fun t nt => ?_⟩
      exact kk _ _ (same_upd nt) ⟨t, .non, rfl, SqT.of upd_same, by rw [e]; rfl⟩
    | some q =>
      obtain ⟨u, gd⟩ := q
      rw [e] at hb
      obtain ⟨p2, d2, rfl, h2⟩ := hb
      refine iteF ⟨_, rfl, p, _, dx, _, _, rfl, hp, T.cl_Kind, T.n_Kind_name, F_Kind_name _ _ _ _, _, rfl, p, _, dx, _, _, rfl, hp, T.cl_Kind, T.n_Kind_base, F_Kind_base _ _ _ _,
        _, rfl, p, _, dx, _, _, rfl, hp, T.cl_Kind, T.n_Kind_own, F_Kind_own _ _ _ _, ?_⟩
      refine ⟨_, rfl, p, _, dx, _, _, rfl, hp, T.cl_Kind, T.n_Kind_begin, F_Kind_begin _ _ _ _, p2, _, d2, _, _, rfl, h2, T.cl_Part, T.n_Part_up, F_Part_up _ _,
        _, rfl, p, _, dx, _, _, rfl, hp, T.cl_Kind, T.n_Kind_begin, F_Kind_begin _ _ _ _, p2, _, d2, _, _, rfl, h2, T.cl_Part, T.n_Part_guarded, F_Part_guarded _ _, (by show 2 ≤ sizeLine; decide), fun t nt => ⟨(by show 4 ≤ sizeLine; decide), fun r nr => ?_⟩⟩
      have s1 : Same H (upd H t (.tup [.str u, .bl gd])) := same_upd nt
      have s2 := same_upd (o := .tup [.str k.name, obV k.base, .bl k.own, .ref t]) nr
      exact kk _ _ (s1.trans s2) ⟨r, .ref t, rfl, SqT.of upd_same, by rw [e]; exact ⟨t, rfl, SqT.of (s2 _ _ upd_same)⟩⟩

-- ==== k04_law
def sp_law (K : PySem.W.Frag) : Sp := fun vs H Q _ => ∃ (a : Addr) (ns : List Int), vs = [.ref a] ∧ SqL K H a (ns.map V.int) ∧ ns.length ≤ 63 ∧ Only H ∧ ∀ H', Q (.bl true) H'
theorem sqT_upd {H : Hp} {t l : Addr} {xs ys : List V} {o : HO} (h : SqT K H t xs) (hl : H l = some (.lst ys)) : SqT K (upd H l o) t xs := by
  rcases h with (h | ⟨q, h⟩) | h
  · exact .inl (.inl (by rw [upd_ne (ne_of h hl (by intro e; cases e))]; exact h))
  · exact .inl (.inr ⟨q, by rw [upd_ne (ne_of h hl (by intro e; cases e))]; exact h⟩)
  · exact .inr h
theorem BgIs.upd {H : Hp} {l : Addr} {ys : List V} {o : HO} {v : V} {b : Option (Str × Bool)} (h : BgIs K H v b) (hl : H l = some (.lst ys)) : BgIs K (L2.upd H l o) v b := by
  cases b with
  | none => exact h
  | some q => obtain ⟨t, e, ht⟩ := h; exact ⟨t, e, sqT_upd ht hl⟩
theorem eqv_rfl {d : PyData} (h : OkD d) : PyData.eqv d d = true := PySem.SeqAt.eqv_refl d (okd_lay d h.ok)
theorem mix_row {k k3 : KindD} {bv bv3 : V} (g : k.Good) (g3 : k3.Good) {i : Int} (h0 : 0 ≤ i) (h1 : i < 4) : ∃ (v : V) (j : Nat) (k' : KindD) (bv' : V), atI (rowV k3 bv3) i = some v ∧ ixN (rowV k bv).length i = some j ∧
    (rowV k bv).set j v = rowV k' bv' ∧ k'.Good ∧ ∀ H : Hp, BgIs K H bv k.begin → BgIs K H bv3 k3.begin → BgIs K H bv' k'.begin := by
  have : i = 0 ∨ i = 1 ∨ i = 2 ∨ i = 3 := by omega
  rcases this with rfl | rfl | rfl | rfl
  · exact ⟨_, 0, { k with name := k3.name }, bv, rfl, rfl, rfl, ⟨g3.name, g.base, g.begin⟩, fun _ h _ => h⟩
  · exact ⟨_, 1, { k with base := k3.base }, bv, rfl, rfl, rfl, ⟨g.name, g3.base, g.begin⟩, fun _ h _ => h⟩
  · exact ⟨_, 2, { k with own := k3.own }, bv, rfl, rfl, rfl, ⟨g.name, g.base, g.begin⟩, fun _ h _ => h⟩
  · exact ⟨_, 3, { k with begin := k3.begin }, bv3, rfl, rfl, rfl, ⟨g.name, g.base, g3.begin⟩, fun _ _ h => h⟩
theorem ok_law (T : Tx K mg ad) : FnOk P w K mg base CX0 6 ad.a_law ad.d_law ["_law_script"] (sp_law K) := by
  refine T.F_law.ok sc_law (fun vs H Q E h => ?_) (fun cdv A outer s H vs Q E hr h => ?_)
  · obtain ⟨a, ns, rfl, _⟩ := h; rfl
  · obtain ⟨a, ns, rfl, hS, hlen, hO, kk⟩ := h
    refine ⟨_, (pss_cons (ps_set (i := 1) sc_law.nd rfl (Or.inl rfl) (pe_call (ok_bag T) (hr.mono (by decide)) (by rfl) T.g_bag T.F_bag.kp T.b_bag .nil pass0 (pa_cons (pv 0) pa_nil))) (pss_cons (ps_set (i := 2) sc_law.nd rfl (Or.inl rfl) (pe_call (ok_drawn T) (hr.mono (by decide)) (by rfl) T.g_drawn T.F_drawn.kp T.b_drawn .nil pass0 (pa_cons (pv 1) pa_nil))) (pss_cons (ps_set (i := 3) sc_law.nd rfl (Or.inl rfl) (pe_callTy call_list_of (by rfl) T.z_list (by decide +kernel) (pa_cons (pv 2) pa_nil))) (pss_cons (ps_set (i := 4) sc_law.nd rfl (Or.inl rfl) (pe_call (ok_draw T) (hr.mono (by decide)) (by rfl) T.g_draw T.F_draw.kp T.b_draw .nil pass0 (pa_cons (pv 1) (pa_cons pe_int pa_nil)))) (pss_cons (ps_asg (pe_ix ix_list (pe_call (ok_drawn T) (hr.mono (by decide)) (by rfl) T.g_drawn T.F_drawn.kp T.b_drawn .nil pass0 (pa_cons (pv 1) pa_nil)) (pv 4) (fun _ _ => rfl)) (pg_sub (pv 3) (pv 4) set_list)) (pss_cons (ps_set (i := 5) sc_law.nd rfl (Or.inl rfl) (ClX.pe_cmeth (pe_glob (v := .ref ad.C_Kind) (by rfl) T.g_Kind rfl) T.cr_Kind T.cm_Kind_of (FnOk.raw (ok_Kind_of T) T.b_Kind_of .nil) (hr.mono (by decide)) pass0 (pa_cons (pe_callTy call_tuple_of (by rfl) T.z_tuple (by decide +kernel) (pa_cons (pv 2) pa_nil)) pa_nil))) (pss_cons (ps_set (i := 6) sc_law.nd rfl (Or.inl rfl) (pe_call (ok_built T) (hr.mono (by decide)) (by rfl) T.g_built T.F_built.kp T.b_built .nil pass0 (pa_cons (pv 2) pa_nil))) (pss_cons (ps_set (i := 7) sc_law.nd rfl (Or.inl rfl) (pe_call (ok_built T) (hr.mono (by decide)) (by rfl) T.g_built T.F_built.kp T.b_built .nil pass0 (pa_cons (pv 3) pa_nil))) (pss_cons (ps_for PassesOwn.never rfl (pi_list (pe_lst (pa_cons (pv 5) (pa_cons (pv 6) pa_nil)))) (pg_name (i := 8) sc_law.nd rfl (Or.inl rfl)) (pss_one (ps_if (PW.pt (pw_or (pt_cmpR (op_neD hr.units) (pe_call (ok_entries T) (hr.mono (by decide)) (by rfl) T.g_entries T.F_entries.kp T.b_entries .nil pass0 (pa_cons (pv 8) pa_nil)) (pe_callTy call_tuple_of (by rfl) T.z_tuple (by decide +kernel) (pa_cons (pv 2) pa_nil)) (nomark _)) (pw_or (pt_cmpR (op_neD hr.units) (pe_meth0 (pv 8) T.cl_Kind T.F_Kind_row.meth (ok_Kind_row T) (hr.mono (by decide)) T.b_Kind_row .nil pass0) (pe_callTy call_tuple_of (by rfl) T.z_tuple (by decide +kernel) (pa_cons (pv 2) pa_nil)) (nomark _)) (pw_or1 (pt_not (pt_val (pe_callB call_isi (by rfl) T.z_isinstance (by decide +kernel) (pa_cons (pe_fld (pv 8) rfl) (pa_cons (pe_bltn (v := .ty "bool") (by rfl) T.z_bool (by decide +kernel) rfl) pa_nil))))))))) (pss_one (ps_ret pe_bl)) pss_nil))) (C8.pss_cut (ps_if (PW.pt (pw_or (pt_not (pt_cmpR (op_ownE T.eq_Kind T.F_Kind_eq.isfn (ok_Kind_eq T) T.b_Kind_eq (hr.mono (by decide)) pass0) (pv 5) (pv 6) (nomark _))) (pw_or (pt_cmpR (op_ownN T.ne_Kind T.eq_Kind T.F_Kind_eq.isfn T.mo_Kind (ok_Kind_eq T) T.b_Kind_eq (hr.mono (by decide)) pass0) (pv 5) (pv 6) (nomark _)) (pw_or (pt_cmpR op_ne (pe_cmpR (op_ownE T.eq_Kind T.F_Kind_eq.isfn (ok_Kind_eq T) T.b_Kind_eq (hr.mono (by decide)) pass0) (pv 5) (pv 7) (nomark _)) (pe_cmpR (op_eqD hr.units) (pv 2) (pv 3) (nomark _)) (nomark _)) (pw_or1 (pt_cmpR (op_ownE T.eq_Kind T.F_Kind_eq.isfn (ok_Kind_eq T) T.b_Kind_eq (hr.mono (by decide)) pass0) (pv 5) (pe_meth0 (pv 5) T.cl_Kind T.F_Kind_row.meth (ok_Kind_row T) (hr.mono (by decide)) T.b_Kind_row .nil pass0) (nomark _))))))) (pss_one (ps_ret pe_bl)) pss_nil) (pss_cons (ps_if (PW.pt (pw_or (pt_cmpR (op_ownN T.ne_Part T.eq_Part T.F_Part_eq.isfn T.mo_Part (ok_Part_eq T) T.b_Part_eq (hr.mono (by decide)) pass0) (pe_make0 T.mk_Part (ok_Part_init T) (hr.mono (by decide)) (by rfl) T.g_Part T.b_Part_init_1 T.v_Part_init_1 pass0) (pe_makeN T.mk_Part (ok_Part_init T) (hr.mono (by decide)) (by rfl) T.g_Part T.kb_Part_init_2_guarded pass0 (pa_cons pe_str pa_nil) (pk_cons pe_bl pk_nil)) (nomark _)) (pw_or1 (pt_cmpR (op_ownE T.eq_Part T.F_Part_eq.isfn (ok_Part_eq T) T.b_Part_eq (hr.mono (by decide)) pass0) (pe_make T.mk_Part (ok_Part_init T) (hr.mono (by decide)) (by rfl) T.g_Part T.b_Part_init_2 T.v_Part_init_2 pass0 (pa_cons pe_str pa_nil)) (pe_make0 T.mk_Part (ok_Part_init T) (hr.mono (by decide)) (by rfl) T.g_Part T.b_Part_init_1 T.v_Part_init_1 pass0) (nomark _))))) (pss_one (ps_ret pe_bl)) pss_nil) (pss_cons (ps_if (PW.pt (pw_or (pt_cmpR (op_ownE T.eq_Part T.F_Part_eq.isfn (ok_Part_eq T) T.b_Part_eq (hr.mono (by decide)) pass0) (pe_make0 T.mk_Part (ok_Part_init T) (hr.mono (by decide)) (by rfl) T.g_Part T.b_Part_init_1 T.v_Part_init_1 pass0) (pe_tup (pa_cons pe_str (pa_cons pe_bl pa_nil))) (nomark _)) (pw_or (pt_cmpR (op_ownE T.eq_Part T.F_Part_eq.isfn (ok_Part_eq T) T.b_Part_eq (hr.mono (by decide)) pass0) (pe_make0 T.mk_Part (ok_Part_init T) (hr.mono (by decide)) (by rfl) T.g_Part T.b_Part_init_1 T.v_Part_init_1 pass0) (pe_make T.mk_Kind (ok_Kind_init T) (hr.mono (by decide)) (by rfl) T.g_Kind T.b_Kind_init_2 T.v_Kind_init_2 pass0 (pa_cons (pe_ix ix_list (pv 2) pe_int (fun _ _ => rfl)) pa_nil)) (nomark _)) (pw_or1 (pt_cmpR (op_ownE T.eq_Part T.F_Part_eq.isfn (ok_Part_eq T) T.b_Part_eq (hr.mono (by decide)) pass0) (pe_make0 T.mk_Part (ok_Part_init T) (hr.mono (by decide)) (by rfl) T.g_Part T.b_Part_init_1 T.v_Part_init_1 pass0) pe_int (nomark _)))))) (pss_one (ps_ret pe_bl)) pss_nil) (pss_cons (ps_if (pt_cmpR (op_neD hr.units) (pe_meth0 (pe_make T.mk_Kind (ok_Kind_init T) (hr.mono (by decide)) (by rfl) T.g_Kind T.b_Kind_init_2 T.v_Kind_init_2 pass0 (pa_cons (pe_ix ix_list (pv 2) pe_int (fun _ _ => rfl)) pa_nil)) T.cl_Kind T.F_Kind_row.meth (ok_Kind_row T) (hr.mono (by decide)) T.b_Kind_row .nil pass0) (pe_tup (pa_cons (pe_ix ix_list (pv 2) pe_int (fun _ _ => rfl)) (pa_cons pe_non (pa_cons pe_bl (pa_cons pe_non pa_nil))))) (nomark _)) (pss_one (ps_ret pe_bl)) pss_nil) (C8.pss_cut (ps_if (PW.pt (pw_and (pt_cmpR op_notN (pe_ix ix_list (pv 2) pe_int (fun _ _ => rfl)) pe_non (nomark _)) (pw_and1 (pt_cmpR op_notN (pe_ix ix_list (pv 3) pe_int (fun _ _ => rfl)) pe_non (nomark _))))) (pss_one (ps_if (pt_cmpR op_ne (pe_cmpR (op_ownE T.eq_Part T.F_Part_eq.isfn (ok_Part_eq T) T.b_Part_eq (hr.mono (by decide)) pass0) (pe_fld (pv 5) rfl) (pe_fld (pv 7) rfl) (nomark _)) (pe_cmpR (op_eqD hr.units) (pe_ix ix_list (pv 2) pe_int (fun _ _ => rfl)) (pe_ix ix_list (pv 3) pe_int (fun _ _ => rfl)) (nomark _)) (nomark _)) (pss_one (ps_ret pe_bl)) pss_nil)) pss_nil) (pss_one (ps_ret (pe_cmpR (op_eqD hr.units) (pe_meth0 (pv 7) T.cl_Kind T.F_Kind_row.meth (ok_Kind_row T) (hr.mono (by decide)) T.b_Kind_row .nil pass0) (pe_callTy call_tuple_of (by rfl) T.z_tuple (by decide +kernel) (pa_cons (pv 3) pa_nil)) (nomark _)))))))))))))))))), ?_⟩
    refine ⟨_, rfl, a, ns, rfl, hS, fun b H1 w1 => ⟨_, rfl, b, H, rfl, w1, fun l1 k bv S1 H2 s1 w2 hl1 hb1 g1 => ?_⟩⟩
    refine ⟨_, rfl, l1, _, rfl, .inl (SqL.of (w2.at hl1)), fun l2 nl2 => ?_⟩
    have w3 := w2.new (o := .lst (rowV k bv)) nl2
    have n12 : l1 ≠ l2 := ne_of_none (w2.at hl1) nl2
    have s3 : Same S1 (upd S1 l2 (.lst (rowV k bv))) := same_upd (w2.free nl2)
    refine ⟨_, rfl, b, _, 4, rfl, w3, by decide, by decide, fun sp H4 w4 sp0 sp1 => ?_⟩
    refine ⟨_, rfl, b, _, rfl, w4, fun l3 k3 bv3 S5 H5 s5 w5 hl3 hb3 g3 => ?_⟩
    obtain ⟨v, j, k', bv', e1, e2, e3, g', hbg⟩ := mix_row (K := K) (bv := bv) (bv3 := bv3) g1 g3 sp0 sp1
    have hl2 : H5 l2 = some (.lst (rowV k bv)) := w5.at (s5 _ _ upd_same)
    refine ⟨_, rfl, l3, _, sp, v, rfl, rfl, SqL.of (w5.at hl3), e1, _, rfl, _, rfl, l2, _, sp, j, rfl, rfl, hl2, e2, ?_⟩
    rw [e3]
    have hb5 : BgIs K (upd H5 l2 (.lst (rowV k' bv'))) bv k.begin := (hb1.mono ((s3.trans s5).trans w5.same)).upd hl2
    have hb6 : BgIs K (upd H5 l2 (.lst (rowV k' bv'))) bv' k'.begin := hbg _ hb5 ((hb3.mono w5.same).upd hl2)
    have hl1' : upd H5 l2 (.lst (rowV k' bv')) l1 = some (.lst (rowV k bv)) := by rw [upd_ne n12]; exact w5.at (s5 _ _ (s3 _ _ hl1))
    have hl2' : upd H5 l2 (.lst (rowV k' bv')) l2 = some (.lst (rowV k' bv')) := upd_same
    generalize upd H5 l2 (.lst (rowV k' bv')) = H6 at hb5 hb6 hl1' hl2'
    clear hl1 hb1 hbg hl2 hb3 hl3 e1 e2 e3 s5 w5 w4 s3 w3 nl2 w2 w1 s1
    -- the three kinds
    refine ⟨rfl, _, rfl, l1, _, rfl, .inl ⟨SqL.of hl1', fun t nt => ⟨.ref t, k, rfl, ⟨t, bv, rfl, SqT.of upd_same, hb5.mono (same_upd nt)⟩, g1, fun v1 H7 s7 K1 => ?_⟩⟩⟩
    have s67 : Same H6 H7 := (same_upd nt).trans s7
    refine ⟨_, rfl, l1, k, bv, rfl, s67 _ _ hl1', hb5.mono s67, g1, fun v2 H8 s8 K2 => ?_⟩
    have s68 := s67.trans s8
    refine ⟨_, rfl, l2, k', bv', rfl, s68 _ _ hl2', hb6.mono s68, g', fun v3 H9 s9 K3 => ?_⟩
    have s69 := s68.trans s9
    have K1 := K1.mono (s8.trans s9)
    have K2 := K2.mono s9
    have hl1 := s69 _ _ hl1'
    have hl2 := s69 _ _ hl2'
    have hb := hb5.mono s69
    have hb' := hb6.mono s69
    clear s7 s67 s8 s68 s9 s69 hb5 hb6 hl1' hl2' nt
    refine ⟨_, rfl, _, rfl, (by show 2 ≤ sizeLine; decide), fun L nL => ⟨L, rfl, ⟨_, SqL.of upd_same⟩, ?_⟩⟩
    refine for_it (walk_list (K := K) (a := L) (xs := [v1, v2])) (fun i σ H' => Same (upd H9 L (.lst [v1, v2])) H' ∧ ∃ c, σ = [some (.ref a), some (.ref b), some (.ref l1), some (.ref l2), some (.int sp), some v1, some v2, some v3, c])
      ⟨Same.refl _, none, rfl⟩ (fun i σ H' _ h => SqL.of (h.1 _ _ upd_same)) ?_ ?_
    · rintro i x σ H10 H11 hi ⟨sm, c, rfl⟩ ⟨rfl, hx⟩
      have s9 : Same H9 H11 := (same_upd nL).trans sm
      have Kx : KindIs ad.C_Kind ad.C_Part H11 x k := by
        have : i = 0 ∨ i = 1 := by have : i < 2 := hi; omega
        rcases this with rfl | rfl
        · cases (Option.some.inj hx); exact K1.mono s9
        · cases (Option.some.inj hx); exact K2.mono s9
      refine ⟨_, rfl, x, k, rfl, Kx, fun r H12 s12 R1 => ?_⟩
      have s912 := s9.trans s12
      refine ⟨_, rfl, l1, _, rfl, .inl ⟨SqL.of (s912 _ _ hl1), fun t nt => ?_⟩⟩
      have st := same_upd (o := .tup (rowV k bv)) nt
      have T1 : RowT K (upd H12 t (.tup (rowV k bv))) (.ref t) k := ⟨t, bv, rfl, SqT.of upd_same, hb.mono (s912.trans st)⟩
      refine ⟨_, _, (R1.mono st).dp, T1.dp, (row_ok g1).shaped, (row_ok g1).shaped, _, rfl, ?_⟩
      rw [eqv_rfl (row_ok g1)]
      refine iteF ?_
      have s913 := s912.trans st
      have Kx := Kx.mono (s12.trans st)
      obtain ⟨p, dx, pv, rfl, hp, hpt, _⟩ := id Kx
      refine ⟨_, rfl, p, dx, _, rfl, hp, F_Kind_no _ _ _ _ (by decide +kernel), _, k, rfl, Kx, fun r2 H14 s14 R2 => ?_⟩
      have s914 := s913.trans s14
      refine ⟨_, rfl, l1, _, rfl, .inl ⟨SqL.of (s914 _ _ hl1), fun t2 nt2 => ?_⟩⟩
      have st2 := same_upd (o := .tup (rowV k bv)) nt2
      have T2 : RowT K (upd H14 t2 (.tup (rowV k bv))) (.ref t2) k := ⟨t2, bv, rfl, SqT.of upd_same, hb.mono (s914.trans st2)⟩
      refine ⟨_, _, (R2.mono st2).dp, T2.dp, (row_ok g1).shaped, (row_ok g1).shaped, _, rfl, ?_⟩
      rw [eqv_rfl (row_ok g1)]
      refine iteF ?_
      have hp2 := (s14.trans st2) _ _ hp
      refine ⟨_, rfl, p, _, dx, _, _, rfl, hp2, T.cl_Kind, T.n_Kind_own, F_Kind_own _ _ _ _, _, _, _, _, _, rfl, .ty _, tyx (.bl k.own), kit_ty (kit_bool (.bool k.own)), _, rfl, ?_⟩
      refine iteF ?_
      exact ⟨((sm.trans (s12.trans st)).trans s14).trans st2, _, rfl⟩
    · rintro σ H10 ⟨sm, c, rfl⟩
      have s9 : Same H9 H10 := (same_upd nL).trans sm
      have K1 := K1.mono s9
      have K2 := K2.mono s9
      have K3 := K3.mono s9
      have hl1 := s9 _ _ hl1
      have hl2 := s9 _ _ hl2
      have hb := hb.mono s9
      have hb' := hb'.mono s9
      clear s9 sm nL
      obtain ⟨p1, d1, b1, rfl, hp1, hpt1, _⟩ := id K1
      obtain ⟨p2, d2, b2, rfl, hp2, hpt2, _⟩ := id K2
      obtain ⟨p3, d3, b3, rfl, hp3, hpt3, _⟩ := id K3
      refine ⟨fun σ H' => Same H10 H' ∧ σ = [some (.ref a), some (.ref b), some (.ref l1), some (.ref l2), some (.int sp), some (.ref p1), some (.ref p2), some (.ref p3), c], ?_, ?_⟩
      · refine ⟨_, rfl, _, rfl, p1, d1, _, .ref ad.C_Kind, rfl, hp1, T.ty_Kind hp2, T.nf_Kind_Kind, _, _, k, rfl, K1, .inr ⟨k, K2, fun H11 s11 => ⟨_, rfl, _, rfl, ?_⟩⟩⟩
        rw [eqv_rfl (row_ok g1)]
        refine iteF ⟨_, rfl, _, rfl, p1, d1, _, .ref ad.C_Kind, rfl, s11 _ _ hp1, T.ty_Kind (s11 _ _ hp2), T.nf_Kind_Kind, _, _, k, rfl, K1.mono s11, .inr ⟨k, K2.mono s11, fun H12 s12 => ⟨_, rfl, _, rfl, ?_⟩⟩⟩
        rw [eqv_rfl (row_ok g1)]
        have s12 := s11.trans s12
        refine iteF ⟨_, rfl, _, rfl, p1, d1, _, .ref ad.C_Kind, rfl, s12 _ _ hp1, T.ty_Kind (s12 _ _ hp3), T.nf_Kind_Kind, _, _, k, rfl, K1.mono s12, .inr ⟨k', K3.mono s12, fun H13 s13 => ⟨_, rfl, ?_⟩⟩⟩
        have s13 := s12.trans s13
        refine ⟨_, rfl, _, rfl, _, _, .lst (SqL.of (s13 _ _ hl1)) (rowV_dp (hb.mono s13)), .lst (SqL.of (s13 _ _ hl2)) (rowV_dp (hb'.mono s13)), (OkD.mk (row_ok g1).ok (row_ok g1).dp).shaped, (OkD.mk (row_ok g').ok (row_ok g').dp).shaped, rfl, _, rfl, ?_⟩
        have ee : (!decide (V.bl (PyData.eqv k.row k'.row) = V.bl (PyData.eqv (.list [.str k.name, obD k.base, .bool k.own, bgD k.begin]) (.list [.str k'.name, obD k'.base, .bool k'.own, bgD k'.begin])))) = false := by
          rw [decide_eq_true (show V.bl (PyData.eqv k.row k'.row) = V.bl (PyData.eqv (.list [.str k.name, obD k.base, .bool k.own, bgD k.begin]) (.list [.str k'.name, obD k'.base, .bool k'.own, bgD k'.begin])) from rfl)]
          rfl
        refine (if_neg (show ¬ (_ = true) by rw [ee]; exact Bool.false_ne_true)).mpr ?_
        refine ⟨_, rfl, _, rfl, p1, d1, _, rfl, s13 _ _ hp1, F_Kind_no _ _ _ _ (by decide +kernel), _, k, rfl, K1.mono s13, fun r H14 s14 R => ?_⟩
        have s14 := s13.trans s14
        refine ⟨p1, d1, _, .type "tuple", rfl, s14 _ _ hp1, tyx R.dp, T.nf_Kind_tuple, _, _, k, rfl, K1.mono s14, .inl ⟨.type "tuple", tyx R.dp, T.ki_tuple_Kind, ⟨_, rfl, _, rfl, iteF ?_⟩⟩⟩
        exact ⟨s14, rfl⟩
      · rintro σ H11 ⟨sm, rfl⟩
        have K1 := K1.mono sm
        have K3 := K3.mono sm
        have hp1 := sm _ _ hp1
        have hp3 := sm _ _ hp3
        have hpt1 := hpt1.mono sm
        have hpt3 := hpt3.mono sm
        have hl1 := sm _ _ hl1
        have hl2 := sm _ _ hl2
        have hb := hb.mono sm
        have hb' := hb'.mono sm
        clear sm
        -- Part() != Part('first', guarded=False) or Part('last') == Part()
        refine fun x dx nx nd ne => ⟨x, dx, _, _, rfl, upd_same, by decide +kernel, fun H12 k12 h12 => ⟨rfl, rfl, rfl, fun y dy ny ndy ney => ⟨y, dy, _, _, rfl, upd_same, by decide +kernel, fun H13 k13 h13 => ⟨rfl, ?_⟩⟩⟩⟩
        have s12 := same_made nx nd k12
        have s13 := same_made ny ndy k13
        refine ⟨x, dx, _, .ref ad.C_Part, rfl, s13 _ _ h12, T.ty_Part h13, T.nf_Part_Part, x, dx, _, _, _, rfl, s13 _ _ h12, .inr ⟨y, dy, _, _, rfl, h13, ⟨_, rfl, _, rfl, ?_⟩⟩⟩
        rw [decide_eq_true (And.intro rfl rfl)]
        refine iteF ?_
        have s := s12.trans s13
        clear h12 h13 k12 k13 nx nd ne ny ndy ney
        refine fun x dx nx nd ne => ⟨x, dx, _, _, rfl, upd_same, by decide +kernel, fun H14 k14 h14 => ⟨rfl, fun y dy ny ndy ney => ⟨y, dy, _, _, rfl, upd_same, by decide +kernel, fun H15 k15 h15 => ⟨rfl, ?_⟩⟩⟩⟩
        have s14 := same_made nx nd k14
        have s15 := same_made ny ndy k15
        refine ⟨x, dx, _, .ref ad.C_Part, rfl, s15 _ _ h14, T.ty_Part h15, T.nf_Part_Part, x, dx, _, _, _, rfl, s15 _ _ h14, .inr ⟨y, dy, _, _, rfl, h15, ⟨_, rfl, _, rfl, ?_⟩⟩⟩
        rw [decide_eq_false (fun h => absurd h.1 (by decide +kernel))]
        refine iteF ?_
        have s := s.trans (s14.trans s15)
        clear h14 h15 k14 k15 nx nd ne ny ndy ney s12 s13 s14 s15
        -- Part() == ('first', False) or Part() == Kind(row[0]) or Part() == 7
        refine fun x dx nx nd ne => ⟨x, dx, _, _, rfl, upd_same, by decide +kernel, fun H16 k16 h16 => ⟨rfl, (by show 2 ≤ sizeLine; decide), fun t nt => ?_⟩⟩
        have s16 := same_made nx nd k16
        have st := same_upd (o := .tup [.str "first", .bl false]) nt
        refine ⟨x, dx, _, .type "tuple", rfl, st _ _ h16, .base (.tup upd_same), T.nf_Part_tuple, x, dx, _, _, _, rfl, st _ _ h16, .inl ⟨.type "tuple", .base (.tup upd_same), T.ki_tuple_Part, ⟨_, rfl, _, rfl, iteF ?_⟩⟩⟩
        have s := s.trans (s16.trans st)
        clear h16 k16 nx nd ne s16 st nt
        refine fun x dx nx nd ne => ⟨x, dx, _, _, rfl, upd_same, by decide +kernel, fun H17 k17 h17 => ⟨rfl, _, rfl, l1, _, 0, _, rfl, rfl, SqL.of ((s.trans (same_made nx nd k17)) _ _ hl1), rfl, fun y dy ny ndy ney => ⟨y, dy, k.name, none, false, .non, rfl, upd_same, g1.name, (fun _ e => by cases e), fun H18 k18 h18 => ⟨rfl, ?_⟩⟩⟩⟩
        have s17 := same_made nx nd k17
        have s18 := same_made ny ndy k18
        refine ⟨x, dx, _, .ref ad.C_Kind, rfl, s18 _ _ h17, T.ty_Kind h18, T.nf_Part_Kind, x, dx, _, _, _, rfl, s18 _ _ h17, .inl ⟨.ref ad.C_Kind, T.ty_Kind h18, T.ki_Kind_Part, ⟨_, rfl, _, rfl, iteF ?_⟩⟩⟩
        have s := s.trans (s17.trans s18)
        clear h17 h18 k17 k18 nx nd ne ny ndy ney s17 s18
        refine fun x dx nx nd ne => ⟨x, dx, _, _, rfl, upd_same, by decide +kernel, fun H19 k19 h19 => ⟨rfl, ?_⟩⟩
        have s19 := same_made nx nd k19
        refine ⟨x, dx, _, .type "int", rfl, h19, .base (.int 7), T.nf_Part_int, x, dx, _, _, _, rfl, h19, .inl ⟨.type "int", .base (.int 7), T.ki_int_Part, ⟨_, rfl, _, rfl, iteF ?_⟩⟩⟩
        have s := s.trans s19
        clear h19 k19 nx nd ne s19
        -- Kind(row[0]).row() != (row[0], None, False, None)
        refine ⟨_, rfl, l1, _, 0, _, rfl, rfl, SqL.of (s _ _ hl1), rfl, fun y dy ny ndy ney => ⟨y, dy, k.name, none, false, .non, rfl, upd_same, g1.name, (fun _ e => by cases e), fun H20 k20 h20 => ⟨rfl, ?_⟩⟩⟩
        have g0 : KindD.Good ⟨k.name, none, false, none⟩ := ⟨g1.name, (fun _ e => by cases e), fun _ _ e => by cases e⟩
        refine ⟨y, dy, _, rfl, h20, F_Kind_no _ _ _ _ (by decide +kernel), _, ⟨k.name, none, false, none⟩, rfl, ⟨y, dy, .non, rfl, h20, rfl, g0⟩, fun r H21 s21 R => ?_⟩
        have s := s.trans ((same_made ny ndy k20).trans s21)
        refine ⟨_, rfl, l1, _, 0, _, rfl, rfl, SqL.of (s _ _ hl1), rfl, (by show 4 ≤ sizeLine; decide), fun t nt => ?_⟩
        have st := same_upd (o := .tup [.str k.name, .non, .bl false, .non]) nt
        refine ⟨_, _, (R.mono st).dp, .tup (SqT.of upd_same) (.cons (.str _) (.cons .non (.cons (.bl _) (.cons .non .nil)))), (row_ok g0).shaped, (row_ok g0).shaped, _, rfl, ?_⟩
        refine iteNot (eqv_rfl (row_ok g0)) ?_
        have s := s.trans st
        clear st nt R h20 k20 ny ndy ney s21
        have K1 := K1.mono s
        have K3 := K3.mono s
        have hp1 := s _ _ hp1
        have hp3 := s _ _ hp3
        have hpt1 := hpt1.mono s
        have hpt3 := hpt3.mono s
        have hl1 := s _ _ hl1
        have hl2 := s _ _ hl2
        have hb := hb.mono s
        have hb' := hb'.mono s
        clear s
        generalize hH : upd H21 t _ = HH at K1 K3 hp1 hp3 hpt1 hpt3 hl1 hl2 hb hb'
        refine ⟨fun σ H' => Same HH H' ∧ σ = [some (.ref a), some (.ref b), some (.ref l1), some (.ref l2), some (.int sp), some (.ref p1), some (.ref p2), some (.ref p3), c], ?_, ?_⟩
        · refine ⟨_, rfl, l1, _, 3, _, rfl, rfl, SqL.of hl1, rfl, rfl, _, rfl, ?_⟩
          cases e1 : k.begin with
          | none =>
            rw [e1] at hb
            cases (show bv = .non from hb)
            exact iteF ⟨Same.refl _, rfl⟩
          | some q1 =>
            obtain ⟨u1, gd1⟩ := q1
            rw [e1] at hb hpt1
            obtain ⟨t1, rfl, ht1⟩ := hb
            obtain ⟨q1, x1, rfl, hq1⟩ := hpt1
            refine iteT ⟨_, rfl, l2, _, 3, _, rfl, rfl, SqL.of hl2, rfl, rfl, _, rfl, ?_⟩
            cases e2 : k'.begin with
            | none =>
              rw [e2] at hb'
              cases (show bv' = .non from hb')
              exact iteF ⟨Same.refl _, rfl⟩
            | some q2 =>
              obtain ⟨u2, gd2⟩ := q2
              rw [e2] at hb' hpt3
              obtain ⟨t2, rfl, ht2⟩ := hb'
              obtain ⟨q2, x2, rfl, hq2⟩ := hpt3
              have o1 : OkD (.tuple [.str u1, .bool gd1]) := ⟨by have := begin_ok g1; rw [e1] at this; exact this, by show 1 ≤ 60; decide⟩
              have o2 : OkD (.tuple [.str u2, .bool gd2]) := ⟨by have := begin_ok g'; rw [e2] at this; exact this, by show 1 ≤ 60; decide⟩
              refine iteT ⟨_, rfl, p1, _, d1, _, _, rfl, hp1, T.cl_Kind, T.n_Kind_begin, F_Kind_begin _ _ _ _, _, rfl, p3, _, d3, _, _, rfl, hp3, T.cl_Kind, T.n_Kind_begin, F_Kind_begin _ _ _ _,
                q1, x1, _, .ref ad.C_Part, rfl, hq1, T.ty_Part hq2, T.nf_Part_Part, q1, x1, _, _, _, rfl, hq1, .inr ⟨q2, x2, _, _, rfl, hq2, ⟨_, rfl, ?_⟩⟩⟩
              refine ⟨_, rfl, l1, _, 3, _, rfl, rfl, SqL.of hl1, rfl, _, rfl, l2, _, 3, _, rfl, rfl, SqL.of hl2, rfl, _, _, .tup ht1 (.cons (.str _) (.cons (.bl _) .nil)), .tup ht2 (.cons (.str _) (.cons (.bl _) .nil)), o1.shaped, o2.shaped, rfl, _, rfl, ?_⟩
              have ee : decide (u1 = u2 ∧ gd1 = gd2) = PyData.eqv (.tuple [.str u1, .bool gd1]) (.tuple [.str u2, .bool gd2]) := by
                show _ = ((u1 == u2) && ((gd1 == gd2) && true))
                by_cases h1 : u1 = u2
                · subst h1; cases gd1 <;> cases gd2 <;> simp
                · rw [decide_eq_false (fun h => h1 h.1), beq_eq_false_iff_ne.mpr h1]; rfl
              refine iteNot (decide_eq_true (by rw [ee])) ?_
              exact ⟨Same.refl _, rfl⟩
        · rintro σ H22 ⟨sm, rfl⟩
          have K3 := K3.mono sm
          refine ⟨_, rfl, p3, d3, _, rfl, sm _ _ hp3, F_Kind_no _ _ _ _ (by decide +kernel), _, k', rfl, K3, fun r H23 s23 R => ?_⟩
          have s23 := sm.trans s23
          refine ⟨_, rfl, l2, _, rfl, .inl ⟨SqL.of (s23 _ _ hl2), fun t nt => ?_⟩⟩
          have st := same_upd (o := .tup (rowV k' bv')) nt
          have T1 : RowT K (upd H23 t (.tup (rowV k' bv'))) (.ref t) k' := ⟨t, bv', rfl, SqT.of upd_same, hb'.mono (s23.trans st)⟩
          refine ⟨_, _, (R.mono st).dp, T1.dp, (row_ok g').shaped, (row_ok g').shaped, ?_⟩
          rw [eqv_rfl (row_ok g')]
          exact kk _

end
theorem all_mk {l : PySem.W.OpenLaw} {w : World} {K : PySem.W.Frag} {h : Heap} {mg : Str → Option Value} {fa : Addr} {C_Part C_Kind f0 f1 f2 f3 f4 f5 f6 f7 dK7 f8 f9 f10 dK10 f11 p11 f12 f13 f14 f15 f16 f17 f18 w_UPS : Addr} {od0 an0 od1 an1 od2 an2 od3 an3 od4 an4 od5 an5 od6 an6 od7 an7 odT7 od8 an8 od9 an9 od10 an10 odT10 od11 an11 od12 an12 od13 an13 od14 an14 od15 an15 od16 an16 od17 an17 od18 an18 od_UPS : Option Addr} {sl0 sl1 sl2 sl3 sl4 sl5 sl6 sl7 slT7 sl8 sl9 sl10 slT10 sl11 sl12 sl13 sl14 sl15 sl16 sl17 sl18 ss_UPS : Array (Option Value)} {oc0 dc0 pm0 cd0 ct0 kV0 oc1 dc1 pm1 cd1 ct1 kV1 oc2 dc2 pm2 cd2 ct2 kV2 oc3 dc3 pm3 cd3 ct3 kV3 oc4 dc4 pm4 cd4 ct4 kV4 oc5 dc5 pm5 cd5 ct5 kV5 oc6 dc6 pm6 cd6 ct6 kV6 oc7 dc7 pm7 cd7 ct7 ocT7 oc8 dc8 pm8 cd8 ct8 kV8 oc9 dc9 pm9 cd9 ct9 kV9 oc10 dc10 pm10 cd10 ct10 ocT10 oc11 dc11 pm11 cd11 ct11 kV11 oc12 dc12 pm12 cd12 ct12 kV12 oc13 dc13 pm13 cd13 ct13 kV13 oc14 dc14 pm14 cd14 ct14 kV14 oc15 dc15 pm15 cd15 ct15 kV15 oc16 dc16 pm16 cd16 ct16 kV16 oc17 dc17 pm17 cd17 ct17 kV17 oc18 dc18 pm18 cd18 ct18 kV18 : Value} {tk7_0 t_LETTERS t_MOST_LETTERS tw_UPS_0 tw_UPS_1 tw_UPS_2 : Tok} {nT7 nT10 nn_UPS : Nat} {re11 : List Value} (X : K.In h) (G : h.Ns mainGlobals mg) (hfa : mg "law" = some (.ref fa))
    (g_Part : PySem.W.nsIn K mainGlobals "Part" = some (some (.ref C_Part)))
    (g_Kind : PySem.W.nsIn K mainGlobals "Kind" = some (some (.ref C_Kind)))
    (a0 : PySem.W.nsIn K mainGlobals "_law_mixed" = some (some (.ref f0)))
    (l0 : K.lookup f0 = some ⟨oc0, od0, .func (PySem.W.fnOf "_law_mixed" "_law_mixed" (defArgs s_mixed) (defBody s_mixed) (defScope s_mixed) .none kV0 dc0 pm0 an0 cd0 ct0), sl0⟩)
    (c0 : PySem.W.codeIn K cd0 "_law_mixed" = true)
    (k0 : PySem.W.keepIn K (.ref f0) = true)
    (a1 : PySem.W.nsIn K mainGlobals "_law_draw" = some (some (.ref f1)))
    (l1 : K.lookup f1 = some ⟨oc1, od1, .func (PySem.W.fnOf "_law_draw" "_law_draw" (defArgs s_draw) (defBody s_draw) (defScope s_draw) .none kV1 dc1 pm1 an1 cd1 ct1), sl1⟩)
    (c1 : PySem.W.codeIn K cd1 "_law_draw" = true)
    (k1 : PySem.W.keepIn K (.ref f1) = true)
    (a2 : PySem.W.nsIn K mainGlobals "_law_bag" = some (some (.ref f2)))
    (l2 : K.lookup f2 = some ⟨oc2, od2, .func (PySem.W.fnOf "_law_bag" "_law_bag" (defArgs s_bag) (defBody s_bag) (defScope s_bag) .none kV2 dc2 pm2 an2 cd2 ct2), sl2⟩)
    (c2 : PySem.W.codeIn K cd2 "_law_bag" = true)
    (k2 : PySem.W.keepIn K (.ref f2) = true)
    (a3 : PySem.W.nsIn K mainGlobals "_law_word" = some (some (.ref f3)))
    (l3 : K.lookup f3 = some ⟨oc3, od3, .func (PySem.W.fnOf "_law_word" "_law_word" (defArgs s_word) (defBody s_word) (defScope s_word) .none kV3 dc3 pm3 an3 cd3 ct3), sl3⟩)
    (c3 : PySem.W.codeIn K cd3 "_law_word" = true)
    (k3 : PySem.W.keepIn K (.ref f3) = true)
    (a4 : PySem.W.nsIn K mainGlobals "_law_short" = some (some (.ref f4)))
    (l4 : K.lookup f4 = some ⟨oc4, od4, .func (PySem.W.fnOf "_law_short" "_law_short" (defArgs s_short) (defBody s_short) (defScope s_short) .none kV4 dc4 pm4 an4 cd4 ct4), sl4⟩)
    (c4 : PySem.W.codeIn K cd4 "_law_short" = true)
    (k4 : PySem.W.keepIn K (.ref f4) = true)
    (a5 : PySem.W.nsIn K mainGlobals "is_name" = some (some (.ref f5)))
    (l5 : K.lookup f5 = some ⟨oc5, od5, .func (PySem.W.fnOf "is_name" "is_name" (defArgs s_is_name) (defBody s_is_name) (defScope s_is_name) .none kV5 dc5 pm5 an5 cd5 ct5), sl5⟩)
    (c5 : PySem.W.codeIn K cd5 "is_name" = true)
    (k5 : PySem.W.keepIn K (.ref f5) = true)
    (a6 : PySem.W.nsIn K mainGlobals "is_up" = some (some (.ref f6)))
    (l6 : K.lookup f6 = some ⟨oc6, od6, .func (PySem.W.fnOf "is_up" "is_up" (defArgs s_is_up) (defBody s_is_up) (defScope s_is_up) .none kV6 dc6 pm6 an6 cd6 ct6), sl6⟩)
    (c6 : PySem.W.codeIn K cd6 "is_up" = true)
    (k6 : PySem.W.keepIn K (.ref f6) = true)
    (a7 : PySem.W.findIn K (.ref C_Part) "__init__" = some (some (.ref f7)))
    (i7 : PySem.W.isFn K (.ref f7) = true)
    (l7 : K.lookup f7 = some ⟨oc7, od7, .func (PySem.W.fnOf "__init__" "Part.__init__" (defArgs s_Part_init) (defBody s_Part_init) (defScope s_Part_init) (.ref dT7) (.ref dK7) dc7 pm7 an7 cd7 ct7), sl7⟩)
    (c7 : PySem.W.codeIn K cd7 "Part.__init__" = true)
    (k7 : PySem.W.keepIn K (.ref f7) = true)
    (t7 : K.lookup dT7 = some ⟨ocT7, odT7, .seq ([.str "first" tk7_0] : List Value).toArray nT7, slT7⟩)
    (q7_0 : PySem.W.nsIn K dK7 "guarded" = some (some (.bool false)))
    (a8 : PySem.W.findIn K (.ref C_Part) "__eq__" = some (some (.ref f8)))
    (i8 : PySem.W.isFn K (.ref f8) = true)
    (l8 : K.lookup f8 = some ⟨oc8, od8, .func (PySem.W.fnOf "__eq__" "Part.__eq__" (defArgs s_Part_eq) (defBody s_Part_eq) (defScope s_Part_eq) .none kV8 dc8 pm8 an8 cd8 ct8), sl8⟩)
    (c8 : PySem.W.codeIn K cd8 "Part.__eq__" = true)
    (k8 : PySem.W.keepIn K (.ref f8) = true)
    (a9 : PySem.W.nsIn K mainGlobals "is_row" = some (some (.ref f9)))
    (l9 : K.lookup f9 = some ⟨oc9, od9, .func (PySem.W.fnOf "is_row" "is_row" (defArgs s_is_row) (defBody s_is_row) (defScope s_is_row) .none kV9 dc9 pm9 an9 cd9 ct9), sl9⟩)
    (c9 : PySem.W.codeIn K cd9 "is_row" = true)
    (k9 : PySem.W.keepIn K (.ref f9) = true)
    (a10 : PySem.W.findIn K (.ref C_Kind) "__init__" = some (some (.ref f10)))
    (i10 : PySem.W.isFn K (.ref f10) = true)
    (l10 : K.lookup f10 = some ⟨oc10, od10, .func (PySem.W.fnOf "__init__" "Kind.__init__" (defArgs s_Kind_init) (defBody s_Kind_init) (defScope s_Kind_init) (.ref dT10) (.ref dK10) dc10 pm10 an10 cd10 ct10), sl10⟩)
    (c10 : PySem.W.codeIn K cd10 "Kind.__init__" = true)
    (k10 : PySem.W.keepIn K (.ref f10) = true)
    (t10 : K.lookup dT10 = some ⟨ocT10, odT10, .seq ([.none] : List Value).toArray nT10, slT10⟩)
    (q10_0 : PySem.W.nsIn K dK10 "own" = some (some (.bool false)))
    (q10_1 : PySem.W.nsIn K dK10 "begin" = some (some (.none)))
    (a11 : PySem.W.findCls K (.ref C_Kind) (.type "type") "of" = some (.get (.builtin "classmethod.__get__") (.ref p11) .none (.ref C_Kind)))
    (r11 : PySem.W.recIn K p11 "classmethod" = some (.ref f11 :: re11))
    (i11 : PySem.W.fnIn K f11 = true)
    (l11 : K.lookup f11 = some ⟨oc11, od11, .func (PySem.W.fnOf "of" "Kind.of" (defArgs s_Kind_of) (defBody s_Kind_of) (defScope s_Kind_of) .none kV11 dc11 pm11 an11 cd11 ct11), sl11⟩)
    (c11 : PySem.W.codeIn K cd11 "Kind.of" = true)
    (k11 : PySem.W.keepIn K (.ref f11) = true)
    (a12 : PySem.W.findIn K (.ref C_Kind) "row" = some (some (.ref f12)))
    (i12 : PySem.W.isFn K (.ref f12) = true)
    (l12 : K.lookup f12 = some ⟨oc12, od12, .func (PySem.W.fnOf "row" "Kind.row" (defArgs s_Kind_row) (defBody s_Kind_row) (defScope s_Kind_row) .none kV12 dc12 pm12 an12 cd12 ct12), sl12⟩)
    (c12 : PySem.W.codeIn K cd12 "Kind.row" = true)
    (k12 : PySem.W.keepIn K (.ref f12) = true)
    (a13 : PySem.W.findIn K (.ref C_Kind) "__eq__" = some (some (.ref f13)))
    (i13 : PySem.W.isFn K (.ref f13) = true)
    (l13 : K.lookup f13 = some ⟨oc13, od13, .func (PySem.W.fnOf "__eq__" "Kind.__eq__" (defArgs s_Kind_eq) (defBody s_Kind_eq) (defScope s_Kind_eq) .none kV13 dc13 pm13 an13 cd13 ct13), sl13⟩)
    (c13 : PySem.W.codeIn K cd13 "Kind.__eq__" = true)
    (k13 : PySem.W.keepIn K (.ref f13) = true)
    (a14 : PySem.W.nsIn K mainGlobals "_law_begin" = some (some (.ref f14)))
    (l14 : K.lookup f14 = some ⟨oc14, od14, .func (PySem.W.fnOf "_law_begin" "_law_begin" (defArgs s_begin) (defBody s_begin) (defScope s_begin) .none kV14 dc14 pm14 an14 cd14 ct14), sl14⟩)
    (c14 : PySem.W.codeIn K cd14 "_law_begin" = true)
    (k14 : PySem.W.keepIn K (.ref f14) = true)
    (a15 : PySem.W.nsIn K mainGlobals "_law_drawn" = some (some (.ref f15)))
    (l15 : K.lookup f15 = some ⟨oc15, od15, .func (PySem.W.fnOf "_law_drawn" "_law_drawn" (defArgs s_drawn) (defBody s_drawn) (defScope s_drawn) .none kV15 dc15 pm15 an15 cd15 ct15), sl15⟩)
    (c15 : PySem.W.codeIn K cd15 "_law_drawn" = true)
    (k15 : PySem.W.keepIn K (.ref f15) = true)
    (a16 : PySem.W.nsIn K mainGlobals "_law_built" = some (some (.ref f16)))
    (l16 : K.lookup f16 = some ⟨oc16, od16, .func (PySem.W.fnOf "_law_built" "_law_built" (defArgs s_built) (defBody s_built) (defScope s_built) .none kV16 dc16 pm16 an16 cd16 ct16), sl16⟩)
    (c16 : PySem.W.codeIn K cd16 "_law_built" = true)
    (k16 : PySem.W.keepIn K (.ref f16) = true)
    (a17 : PySem.W.nsIn K mainGlobals "_law_entries" = some (some (.ref f17)))
    (l17 : K.lookup f17 = some ⟨oc17, od17, .func (PySem.W.fnOf "_law_entries" "_law_entries" (defArgs s_entries) (defBody s_entries) (defScope s_entries) .none kV17 dc17 pm17 an17 cd17 ct17), sl17⟩)
    (c17 : PySem.W.codeIn K cd17 "_law_entries" = true)
    (k17 : PySem.W.keepIn K (.ref f17) = true)
    (a18 : PySem.W.nsIn K mainGlobals "law" = some (some (.ref f18)))
    (l18 : K.lookup f18 = some ⟨oc18, od18, .func (PySem.W.fnOf "law" "law" (defArgs s_law) (defBody s_law) (defScope s_law) .none kV18 dc18 pm18 an18 cd18 ct18), sl18⟩)
    (c18 : PySem.W.codeIn K cd18 "law" = true)
    (k18 : PySem.W.keepIn K (.ref f18) = true)
    (pg_Part : PySem.W.plainGet K C_Part Str.empty = true)
    (hd_Part : PySem.W.hasDictIn K C_Part = true)
    (po_Part : PySem.W.plainOver K C_Part = true)
    (sa_Part : PySem.W.findIn K (.ref C_Part) "__setattr__" = some (some (.builtin "object.__setattr__")))
    (n_Part_up : PySem.W.findIn K (.ref C_Part) "up" = some none)
    (n_Part_guarded : PySem.W.findIn K (.ref C_Part) "guarded" = some none)
    (mk_Part : PySem.W.makesIn K C_Part = true)
    (kc_Part : PySem.W.keepIn K (.ref C_Part) = true)
    (ne_Part : PySem.W.findIn K (.ref C_Part) "__ne__" = some (some (.builtin "object.__ne__")))
    (mo_Part : PySem.W.mroIn K C_Part (.type "object") = some true)
    (ha_Part : PySem.W.findIn K (.ref C_Part) "__class__" = some (some (.builtin "object.__class__")))
    (hn_Part : PySem.W.specialIn K (.builtin "object.__class__") "__get__" = some (some (.builtin "getset_descriptor.__get__")))
    (hk_Part : PySem.W.takesIn K (.builtin "object.__class__") = some true)
    (pg_Kind : PySem.W.plainGet K C_Kind Str.empty = true)
    (hd_Kind : PySem.W.hasDictIn K C_Kind = true)
    (po_Kind : PySem.W.plainOver K C_Kind = true)
    (sa_Kind : PySem.W.findIn K (.ref C_Kind) "__setattr__" = some (some (.builtin "object.__setattr__")))
    (n_Kind_name : PySem.W.findIn K (.ref C_Kind) "name" = some none)
    (n_Kind_base : PySem.W.findIn K (.ref C_Kind) "base" = some none)
    (n_Kind_own : PySem.W.findIn K (.ref C_Kind) "own" = some none)
    (n_Kind_begin : PySem.W.findIn K (.ref C_Kind) "begin" = some none)
    (mk_Kind : PySem.W.makesIn K C_Kind = true)
    (kc_Kind : PySem.W.keepIn K (.ref C_Kind) = true)
    (ne_Kind : PySem.W.findIn K (.ref C_Kind) "__ne__" = some (some (.builtin "object.__ne__")))
    (mo_Kind : PySem.W.mroIn K C_Kind (.type "object") = some true)
    (ha_Kind : PySem.W.findIn K (.ref C_Kind) "__class__" = some (some (.builtin "object.__class__")))
    (hn_Kind : PySem.W.specialIn K (.builtin "object.__class__") "__get__" = some (some (.builtin "getset_descriptor.__get__")))
    (hk_Kind : PySem.W.takesIn K (.builtin "object.__class__") = some true)
    (rd_Kind : PySem.W.readsIn K C_Kind (.type "type") = true)
    (rg_Kind : PySem.W.specialIn K (.ref C_Kind) "__getattribute__" = some (some (.builtin "type.__getattribute__")))
    (ic_Part : PySem.W.isClsIn K C_Part = true)
    (tt_Part : PySem.W.typeIn K (.ref C_Part) = some (.type "type"))
    (sf_Part : PySem.W.subIn K (.ref C_Part) (.ref C_Part) = some true)
    (sb_tuple_Part : PySem.W.subIn K (.type "tuple") (.ref C_Part) = some false)
    (ic_Kind : PySem.W.isClsIn K C_Kind = true)
    (tt_Kind : PySem.W.typeIn K (.ref C_Kind) = some (.type "type"))
    (sf_Kind : PySem.W.subIn K (.ref C_Kind) (.ref C_Kind) = some true)
    (sb_tuple_Kind : PySem.W.subIn K (.type "tuple") (.ref C_Kind) = some false)
    (sb_Kind_Part : PySem.W.subIn K (.ref C_Kind) (.ref C_Part) = some false)
    (sb_int_Part : PySem.W.subIn K (.type "int") (.ref C_Part) = some false)
    (nf_Part_Part : PySem.W.notFirst K C_Part (.ref C_Part) = true)
    (nf_Kind_Kind : PySem.W.notFirst K C_Kind (.ref C_Kind) = true)
    (nf_Part_tuple : PySem.W.notFirst K C_Part (.type "tuple") = true)
    (nf_Kind_tuple : PySem.W.notFirst K C_Kind (.type "tuple") = true)
    (nf_Part_Kind : PySem.W.notFirst K C_Part (.ref C_Kind) = true)
    (nf_Part_int : PySem.W.notFirst K C_Part (.type "int") = true)
    (q_LETTERS : PySem.W.nsIn K mainGlobals "LETTERS" = some (some (.str "abcdefghijklmnopqrstuvwxyz" t_LETTERS)))
    (q_MOST_LETTERS : PySem.W.nsIn K mainGlobals "MOST_LETTERS" = some (some (.int 8 t_MOST_LETTERS)))
    (q_UPS : PySem.W.nsIn K mainGlobals "UPS" = some (some (.ref w_UPS)))
    (w_UPSl : K.lookup w_UPS = some ⟨.type "tuple", od_UPS, .seq ([.str "first" tw_UPS_0, .str "last" tw_UPS_1, .str "alone" tw_UPS_2] : List Value).toArray nn_UPS, ss_UPS⟩)
    (z_bool : PySem.W.nsIn K mainGlobals "bool" = some none)
    (z_int : PySem.W.nsIn K mainGlobals "int" = some none)
    (z_isinstance : PySem.W.nsIn K mainGlobals "isinstance" = some none)
    (z_len : PySem.W.nsIn K mainGlobals "len" = some none)
    (z_list : PySem.W.nsIn K mainGlobals "list" = some none)
    (z_range : PySem.W.nsIn K mainGlobals "range" = some none)
    (z_str : PySem.W.nsIn K mainGlobals "str" = some none)
    (z_tuple : PySem.W.nsIn K mainGlobals "tuple" = some none) :
    ∃ fd : FuncData, (∀ (s : Shared) (v : Value), BindsTo s fd ⟨[v], []⟩ [("_law_script", v)]) ∧ ∀ base : Heap, K.In base → base.Ns mainGlobals mg → FnOk l.prog w K mg base CX0 6 fa fd ["_law_script"] (sp_law K) := by
  have e := hfa.symm.trans (PySem.W.mg_of X G a18)
  cases e
  have F0 := fun_mk (st := s_mixed) l0 c0 k0
  have b0_2 := F0.binds (ps := ["_law_seed", "_law_count"]) (fun _ _ _ _ _ _ us hl => match us, hl with | [_, _], _ => rfl)
  have F1 := fun_mk (st := s_draw) l1 c1 k1
  have b1_2 := F1.binds (ps := ["_law_bag_here", "_law_limit"]) (fun _ _ _ _ _ _ us hl => match us, hl with | [_, _], _ => rfl)
  have F2 := fun_mk (st := s_bag) l2 c2 k2
  have b2_1 := F2.binds (ps := ["_law_script"]) (fun _ _ _ _ _ _ us hl => match us, hl with | [_], _ => rfl)
  have F3 := fun_mk (st := s_word) l3 c3 k3
  have b3_1 := F3.binds (ps := ["_law_bag_here"]) (fun _ _ _ _ _ _ us hl => match us, hl with | [_], _ => rfl)
  have F4 := fun_mk (st := s_short) l4 c4 k4
  have b4_1 := F4.binds (ps := ["_law_bag_here"]) (fun _ _ _ _ _ _ us hl => match us, hl with | [_], _ => rfl)
  have F5 := fun_mk (st := s_is_name) l5 c5 k5
  have b5_1 := F5.binds (ps := ["thing"]) (fun _ _ _ _ _ _ us hl => match us, hl with | [_], _ => rfl)
  have F6 := fun_mk (st := s_is_up) l6 c6 k6
  have b6_1 := F6.binds (ps := ["thing"]) (fun _ _ _ _ _ _ us hl => match us, hl with | [_], _ => rfl)
  have F7 : FunD K "__init__" "Part.__init__" (defArgs s_Part_init) (defBody s_Part_init) (defScope s_Part_init) [.str "first"] [("guarded", .bl false)] f7 _ := ⟨⟨_, _, _, _, _, _, _, _, _, _, rfl, l7, c7, .inr ⟨by simp, dT7, _, _, _, rfl, t7, rfl, (.cons ⟨_, rfl⟩ .nil)⟩, .inr ⟨dK7, rfl, fun q hq => by
      simp only [List.mem_cons, List.not_mem_nil, or_false] at hq
      rcases hq with rfl
      · exact ⟨_, q7_0, rfl⟩⟩⟩, k7⟩
  obtain ⟨e7_1, v7_1, b7_1⟩ := F7.binds (ps := ["self", "up", "guarded"]) 1 0 (by simp) rfl (fun T D doc pm an cdv ct us its ks h1 h2 h3 => match us, its, ks, h1, h2, h3 with | [a0], [d0], [k0], _, _, _ => ⟨_, rfl, ⟨_, _, _, _, _, _, rfl, rfl, rfl⟩⟩) (by simp)
  obtain ⟨e7_2, v7_2, b7_2⟩ := F7.binds (ps := ["self", "up", "guarded"]) 2 1 (by simp) rfl (fun T D doc pm an cdv ct us its ks h1 h2 h3 => match us, its, ks, h1, h2, h3 with | [a0, a1], [d0], [k0], _, _, _ => ⟨_, rfl, ⟨_, _, _, _, _, _, rfl, rfl, rfl⟩⟩) (by simp)
  obtain ⟨e7_2_guarded, m7_2_guarded, kb7_2_guarded⟩ := F7.kbinds (ps := ["self", "up", "guarded"]) 2 ["guarded"] [] (fun vs ds ms zs => g_Part_init_2_guarded vs ds ms zs) (by simp) (by simp) (by decide +kernel) (fun r1 r2 r3 r4 => rel_g_Part_init_2_guarded r1 r2 r3 r4) (fun T D doc pm an cdv ct us its mv ws h1 h2 h3 h4 => match us, its, mv, ws, h1, h2, h3, h4 with | [a0, a1], [d0], [], [z0], _, _, _, _ => ⟨_, rfl, rfl⟩)
  have F8 := fun_mk (st := s_Part_eq) l8 c8 k8
  have b8_2 := F8.binds (ps := ["self", "other"]) (fun _ _ _ _ _ _ us hl => match us, hl with | [_, _], _ => rfl)
  have F9 := fun_mk (st := s_is_row) l9 c9 k9
  have b9_1 := F9.binds (ps := ["thing"]) (fun _ _ _ _ _ _ us hl => match us, hl with | [_], _ => rfl)
  have F10 : FunD K "__init__" "Kind.__init__" (defArgs s_Kind_init) (defBody s_Kind_init) (defScope s_Kind_init) [.non] [("own", .bl false), ("begin", .non)] f10 _ := ⟨⟨_, _, _, _, _, _, _, _, _, _, rfl, l10, c10, .inr ⟨by simp, dT10, _, _, _, rfl, t10, rfl, (.cons rfl .nil)⟩, .inr ⟨dK10, rfl, fun q hq => by
      simp only [List.mem_cons, List.not_mem_nil, or_false] at hq
      rcases hq with rfl | rfl
      · exact ⟨_, q10_0, rfl⟩
      · exact ⟨_, q10_1, rfl⟩⟩⟩, k10⟩
  obtain ⟨e10_2, v10_2, b10_2⟩ := F10.binds (ps := ["self", "name", "base", "own", "begin"]) 2 0 (by simp) rfl (fun T D doc pm an cdv ct us its ks h1 h2 h3 => match us, its, ks, h1, h2, h3 with | [a0, a1], [d0], [k0, k1], _, _, _ => ⟨_, rfl, ⟨_, _, _, _, _, _, rfl, rfl, ⟨_, _, _, _, _, _, rfl, rfl, rfl⟩⟩⟩) (by simp)
  obtain ⟨e10_3_own, m10_3_own, kb10_3_own⟩ := F10.kbinds (ps := ["self", "name", "base", "own", "begin"]) 3 ["own"] [("begin", .non)] (fun vs ds ms zs => g_Kind_init_3_own vs ds ms zs) (by simp) (by simp) (by decide +kernel) (fun r1 r2 r3 r4 => rel_g_Kind_init_3_own r1 r2 r3 r4) (fun T D doc pm an cdv ct us its mv ws h1 h2 h3 h4 => match us, its, mv, ws, h1, h2, h3, h4 with | [a0, a1, a2], [d0], [m0], [z0], _, _, _, _ => ⟨_, rfl, ⟨_, _, _, _, _, _, rfl, rfl, rfl⟩⟩)
  obtain ⟨e10_3_own_begin, m10_3_own_begin, kb10_3_own_begin⟩ := F10.kbinds (ps := ["self", "name", "base", "own", "begin"]) 3 ["own", "begin"] [] (fun vs ds ms zs => g_Kind_init_3_own_begin vs ds ms zs) (by simp) (by simp) (by decide +kernel) (fun r1 r2 r3 r4 => rel_g_Kind_init_3_own_begin r1 r2 r3 r4) (fun T D doc pm an cdv ct us its mv ws h1 h2 h3 h4 => match us, its, mv, ws, h1, h2, h3, h4 with | [a0, a1, a2], [d0], [], [z0, z1], _, _, _, _ => ⟨_, rfl, rfl⟩)
  have F11 := fun_mk (st := s_Kind_of) l11 c11 k11
  have b11_2 := F11.binds (ps := ["cls", "row"]) (fun _ _ _ _ _ _ us hl => match us, hl with | [_, _], _ => rfl)
  have F12 := fun_mk (st := s_Kind_row) l12 c12 k12
  have b12_1 := F12.binds (ps := ["self"]) (fun _ _ _ _ _ _ us hl => match us, hl with | [_], _ => rfl)
  have F13 := fun_mk (st := s_Kind_eq) l13 c13 k13
  have b13_2 := F13.binds (ps := ["self", "other"]) (fun _ _ _ _ _ _ us hl => match us, hl with | [_, _], _ => rfl)
  have F14 := fun_mk (st := s_begin) l14 c14 k14
  have b14_1 := F14.binds (ps := ["_law_bag_here"]) (fun _ _ _ _ _ _ us hl => match us, hl with | [_], _ => rfl)
  have F15 := fun_mk (st := s_drawn) l15 c15 k15
  have b15_1 := F15.binds (ps := ["_law_bag_here"]) (fun _ _ _ _ _ _ us hl => match us, hl with | [_], _ => rfl)
  have F16 := fun_mk (st := s_built) l16 c16 k16
  have b16_1 := F16.binds (ps := ["_law_row"]) (fun _ _ _ _ _ _ us hl => match us, hl with | [_], _ => rfl)
  have F17 := fun_mk (st := s_entries) l17 c17 k17
  have b17_1 := F17.binds (ps := ["_law_kd"]) (fun _ _ _ _ _ _ us hl => match us, hl with | [_], _ => rfl)
  have F18 := fun_mk (st := s_law) l18 c18 k18
  exact ⟨_, fun s v => .of_eq rfl, fun base _ _ => ok_law (ad := ⟨C_Part, C_Kind, f0, _, f1, _, f2, _, f3, _, f4, _, f5, _, f6, _, f7, _, e7_1, e7_2, fun us ws => g_Part_init_2_guarded us e7_2_guarded m7_2_guarded ws, f8, _, f9, _, f10, _, e10_2, fun us ws => g_Kind_init_3_own us e10_3_own m10_3_own ws, fun us ws => g_Kind_init_3_own_begin us e10_3_own_begin m10_3_own_begin ws, f11, _, p11, f12, _, f13, _, f14, _, f15, _, f16, _, f17, _, _, _, t_LETTERS, t_MOST_LETTERS, w_UPS⟩) ⟨F0, PySem.W.mg_of X G a0, b0_2, F1, PySem.W.mg_of X G a1, b1_2, F2, PySem.W.mg_of X G a2, b2_1, F3, PySem.W.mg_of X G a3, b3_1, F4, PySem.W.mg_of X G a4, b4_1, F5, PySem.W.mg_of X G a5, b5_1, F6, PySem.W.mg_of X G a6, b6_1, ⟨F7, a7, i7, F7.kp⟩, v7_1, b7_1, v7_2, b7_2, kb7_2_guarded, ⟨F8, a8, i8, F8.kp⟩, b8_2, F9, PySem.W.mg_of X G a9, b9_1, ⟨F10, a10, i10, F10.kp⟩, v10_2, b10_2, kb10_3_own, kb10_3_own_begin, F11, ⟨a11, ⟨_, r11⟩, i11⟩, b11_2, ⟨F12, a12, i12, F12.kp⟩, b12_1, ⟨F13, a13, i13, F13.kp⟩, b13_2, F14, PySem.W.mg_of X G a14, b14_1, F15, PySem.W.mg_of X G a15, b15_1, F16, PySem.W.mg_of X G a16, b16_1, F17, PySem.W.mg_of X G a17, b17_1, F18, PySem.W.mg_of X G a18, PySem.W.mg_of X G g_Part, ⟨pg_Part, hd_Part, po_Part, sa_Part⟩, n_Part_up, n_Part_guarded, ⟨mk_Part, a7, i7, kc_Part⟩, a8, ne_Part, mo_Part, fun e => .base (.ins e ⟨pg_Part, hd_Part, po_Part, sa_Part⟩ ha_Part hn_Part hk_Part mo_Part), PySem.W.mg_of X G g_Kind, ⟨pg_Kind, hd_Kind, po_Kind, sa_Kind⟩, n_Kind_name, n_Kind_base, n_Kind_own, n_Kind_begin, ⟨mk_Kind, a10, i10, kc_Kind⟩, a13, ne_Kind, mo_Kind, fun e => .base (.ins e ⟨pg_Kind, hd_Kind, po_Kind, sa_Kind⟩ ha_Kind hn_Kind hk_Kind mo_Kind), ⟨rd_Kind, rg_Kind⟩, kit_self, kit_self, kit_own ic_Part tt_Part sf_Part sb_tuple_Part, kit_own ic_Kind tt_Kind sf_Kind sb_tuple_Kind, kit_own ic_Part tt_Part sf_Part sb_Kind_Part, kit_own ic_Part tt_Part sf_Part sb_int_Part, nf_Part_Part, nf_Kind_Kind, nf_Part_tuple, nf_Kind_tuple, nf_Part_Kind, nf_Part_int, PySem.W.mg_of X G q_LETTERS, PySem.W.mg_of X G q_MOST_LETTERS, PySem.W.mg_of X G q_UPS, fun H => sqT_written w_UPSl (.cons ⟨_, rfl⟩ (.cons ⟨_, rfl⟩ (.cons ⟨_, rfl⟩ .nil))) (by decide), PySem.W.mg_none_of X G z_bool, PySem.W.mg_none_of X G z_int, PySem.W.mg_none_of X G z_isinstance, PySem.W.mg_none_of X G z_len, PySem.W.mg_none_of X G z_list, PySem.W.mg_none_of X G z_range, PySem.W.mg_none_of X G z_str, PySem.W.mg_none_of X G z_tuple⟩⟩
theorem walk {l : PySem.W.OpenLaw} {q : Program} {loose : List Str} {XP : (Str → Option Value) → Heap → Prop} {YP : World → Heap → Prop} {d : DefRec} {K : Params → PySem.W.Frag} (hn : l.most = some 63) (hdf : d.params.defaults = [])
    (hY : ∀ (w : World) (h : Heap), YP w h → (K w.params).In h)
    (F : ∀ (w : World) (mg : Str → Option Value) (fa : Addr) (h : Heap), (K w.params).In h → h.Ns mainGlobals mg → mg d.name = some (.ref fa) →
      ∃ fd : FuncData, (∀ (s : Shared) (u : Value), BindsTo s fd ⟨[u], []⟩ [("_law_script", u)]) ∧ ∀ base : Heap, (K w.params).In base → base.Ns mainGlobals mg → FnOk l.prog w (K w.params) mg base CX0 6 fa fd ["_law_script"] (sp_law (K w.params))) :
    PySem.W.WalkO q loose XP YP l.row.toRowW d [] (fun f vs => PySem.call f vs) :=
  L2.walk_of (n := 63) (k := 6) (x := "_law_script") (CX := fun _ => CX0) (sp := fun w => sp_law (K w.params)) hn (by decide) hdf ⟨rfl, by decide, by decide⟩ hY F (fun _ _ a ns hl hO hS => ⟨a, ns, rfl, hS, hl, hO, fun _ => rfl⟩) fun _ _ _ _ _ z => z
end Own

open PySem PySem.W PyProof.Rows in
set_option maxRecDepth 100000 in
set_option maxHeartbeats 0 in
theorem PySem.Challenge.cw_oneandonly_k04_parts_and_kinds_holds : PySem.Challenge.rw_oneandonly_k04_parts_and_kinds.Holds := by
  w_on; o_law; k_head; (case hw => w_witness2)
  k_fill
  refine Own.walk (l := PySem.Challenge.rw_oneandonly_k04_parts_and_kinds) rfl rfl (fun w h Y => PySem.W.kIn_of Y) ?F
  case F =>
    intro w mg fa h KX G hmg
    refine' Own.all_mk KX G hmg ?g_Part ?g_Kind ?a0 ?l0 ?c0 ?k0 ?a1 ?l1 ?c1 ?k1 ?a2 ?l2 ?c2 ?k2 ?a3 ?l3 ?c3 ?k3 ?a4 ?l4 ?c4 ?k4 ?a5 ?l5 ?c5 ?k5 ?a6 ?l6 ?c6 ?k6 ?a7 ?i7 ?l7 ?c7 ?k7 ?t7 ?q7_0 ?a8 ?i8 ?l8 ?c8 ?k8 ?a9 ?l9 ?c9 ?k9 ?a10 ?i10 ?l10 ?c10 ?k10 ?t10 ?q10_0 ?q10_1 ?a11 ?r11 ?i11 ?l11 ?c11 ?k11 ?a12 ?i12 ?l12 ?c12 ?k12 ?a13 ?i13 ?l13 ?c13 ?k13 ?a14 ?l14 ?c14 ?k14 ?a15 ?l15 ?c15 ?k15 ?a16 ?l16 ?c16 ?k16 ?a17 ?l17 ?c17 ?k17 ?a18 ?l18 ?c18 ?k18 ?pg_Part ?hd_Part ?po_Part ?sa_Part ?n_Part_up ?n_Part_guarded ?mk_Part ?kc_Part ?ne_Part ?mo_Part ?ha_Part ?hn_Part ?hk_Part ?pg_Kind ?hd_Kind ?po_Kind ?sa_Kind ?n_Kind_name ?n_Kind_base ?n_Kind_own ?n_Kind_begin ?mk_Kind ?kc_Kind ?ne_Kind ?mo_Kind ?ha_Kind ?hn_Kind ?hk_Kind ?rd_Kind ?rg_Kind ?ic_Part ?tt_Part ?sf_Part ?sb_tuple_Part ?ic_Kind ?tt_Kind ?sf_Kind ?sb_tuple_Kind ?sb_Kind_Part ?sb_int_Part ?nf_Part_Part ?nf_Kind_Kind ?nf_Part_tuple ?nf_Kind_tuple ?nf_Part_Kind ?nf_Part_int ?q_LETTERS ?q_MOST_LETTERS ?q_UPS ?w_UPSl ?z_bool ?z_int ?z_isinstance ?z_len ?z_list ?z_range ?z_str ?z_tuple
    (case g_Part => k_is)
    (case g_Kind => k_is)
    (case a0 => k_is)
    (case l0 => k_is)
    (case c0 => k_is)
    (case k0 => k_is)
    (case a1 => k_is)
    (case l1 => k_is)
    (case c1 => k_is)
    (case k1 => k_is)
    (case a2 => k_is)
    (case l2 => k_is)
    (case c2 => k_is)
    (case k2 => k_is)
    (case a3 => k_is)
    (case l3 => k_is)
    (case c3 => k_is)
    (case k3 => k_is)
    (case a4 => k_is)
    (case l4 => k_is)
    (case c4 => k_is)
    (case k4 => k_is)
    (case a5 => k_is)
    (case l5 => k_is)
    (case c5 => k_is)
    (case k5 => k_is)
    (case a6 => k_is)
    (case l6 => k_is)
    (case c6 => k_is)
    (case k6 => k_is)
    (case a7 => k_is)
    (case i7 => k_is)
    (case l7 => k_is)
    (case c7 => k_is)
    (case k7 => k_is)
    (case t7 => k_is)
    (case q7_0 => k_is)
    (case a8 => k_is)
    (case i8 => k_is)
    (case l8 => k_is)
    (case c8 => k_is)
    (case k8 => k_is)
    (case a9 => k_is)
    (case l9 => k_is)
    (case c9 => k_is)
    (case k9 => k_is)
    (case a10 => k_is)
    (case i10 => k_is)
    (case l10 => k_is)
    (case c10 => k_is)
    (case k10 => k_is)
    (case t10 => k_is)
    (case q10_0 => k_is)
    (case q10_1 => k_is)
    (case a11 => k_is)
    (case r11 => k_is)
    (case i11 => k_is)
    (case l11 => k_is)
    (case c11 => k_is)
    (case k11 => k_is)
    (case a12 => k_is)
    (case i12 => k_is)
    (case l12 => k_is)
    (case c12 => k_is)
    (case k12 => k_is)
    (case a13 => k_is)
    (case i13 => k_is)
    (case l13 => k_is)
    (case c13 => k_is)
    (case k13 => k_is)
    (case a14 => k_is)
    (case l14 => k_is)
    (case c14 => k_is)
    (case k14 => k_is)
    (case a15 => k_is)
    (case l15 => k_is)
    (case c15 => k_is)
    (case k15 => k_is)
    (case a16 => k_is)
    (case l16 => k_is)
    (case c16 => k_is)
    (case k16 => k_is)
    (case a17 => k_is)
    (case l17 => k_is)
    (case c17 => k_is)
    (case k17 => k_is)
    (case a18 => k_is)
    (case l18 => k_is)
    (case c18 => k_is)
    (case k18 => k_is)
    (case pg_Part => k_is)
    (case hd_Part => k_is)
    (case po_Part => k_is)
    (case sa_Part => k_is)
    (case n_Part_up => k_is)
    (case n_Part_guarded => k_is)
    (case mk_Part => k_is)
    (case kc_Part => k_is)
    (case ne_Part => k_is)
    (case mo_Part => k_is)
    (case ha_Part => k_is)
    (case hn_Part => k_is)
    (case hk_Part => k_is)
    (case pg_Kind => k_is)
    (case hd_Kind => k_is)
    (case po_Kind => k_is)
    (case sa_Kind => k_is)
    (case n_Kind_name => k_is)
    (case n_Kind_base => k_is)
    (case n_Kind_own => k_is)
    (case n_Kind_begin => k_is)
    (case mk_Kind => k_is)
    (case kc_Kind => k_is)
    (case ne_Kind => k_is)
    (case mo_Kind => k_is)
    (case ha_Kind => k_is)
    (case hn_Kind => k_is)
    (case hk_Kind => k_is)
    (case rd_Kind => k_is)
    (case rg_Kind => k_is)
    (case ic_Part => k_is)
    (case tt_Part => k_is)
    (case sf_Part => k_is)
    (case sb_tuple_Part => k_is)
    (case ic_Kind => k_is)
    (case tt_Kind => k_is)
    (case sf_Kind => k_is)
    (case sb_tuple_Kind => k_is)
    (case sb_Kind_Part => k_is)
    (case sb_int_Part => k_is)
    (case nf_Part_Part => k_is)
    (case nf_Kind_Kind => k_is)
    (case nf_Part_tuple => k_is)
    (case nf_Kind_tuple => k_is)
    (case nf_Part_Kind => k_is)
    (case nf_Part_int => k_is)
    (case q_LETTERS => k_is)
    (case q_MOST_LETTERS => k_is)
    (case q_UPS => k_is)
    (case w_UPSl => k_is)
    (case z_bool => k_is)
    (case z_int => k_is)
    (case z_isinstance => k_is)
    (case z_len => k_is)
    (case z_list => k_is)
    (case z_range => k_is)
    (case z_str => k_is)
    (case z_tuple => k_is)
