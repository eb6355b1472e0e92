import PyProof.Rows.All
import Wide.All
import OpenK.AllK
import Wide.FinOn
import HandS.Codes
import HandS.Conv
import HandS.Defaults
import HandS.Dict
import HandS.Ends
import HandS.ForMost
import HandS.Head0
import HandS.Head1
import HandS.Head2
import HandS.HeadEnd
import HandS.HeadHook1
import HandS.HeadHook2
import HandS.IsInst
import HandS.More
import HandS.OwnIter
import HandS.SortInts
import HandS.StrMore
import HandS.Strs
import HandS.Style
import HandS.Text
import HandS.TupAny
import HandS.Walk
import HandS.Zip
import KE.GoesEnum
import KE.KDictZip
import KE.KStateDown
import KE.SortData
import PyProof.ReprRoads
import PyProof.StrLawsRepr
import PySem.Challenge.RW_suretrips_k77_whole_books_told_in_any_wo
set_option Elab.async false
set_option linter.all false
set_option maxRecDepth 100000
set_option maxHeartbeats 4000000
namespace Bk
open PySem PySem.Spec PyProof.Rows L2
/-! ### text A1 -/
/-! ## data over a part of the heap that never changes; what may change, told one by one -/
mutual
/-- at v stands the datum d, in the part D of the heap -/
inductive At (D : Hp) : V → PyData → Prop
  | non : At D .non .none
  | bl (b : Bool) : At D (.bl b) (.bool b)
  | int (i : Int) : At D (.int i) (.int i)
  | str (x : Str) : At D (.str x) (.str x)
  | lst {a : Addr} {xs : List V} {ds : List PyData} : D a = some (.lst xs) → AtL D xs ds → At D (.ref a) (.list ds)
  | tup {a : Addr} {xs : List V} {ds : List PyData} : D a = some (.tup xs) → AtL D xs ds → At D (.ref a) (.tuple ds)
inductive AtL (D : Hp) : List V → List PyData → Prop
  | nil : AtL D [] []
  | cons {v : V} {d : PyData} {vs : List V} {ds : List PyData} : At D v d → AtL D vs ds → AtL D (v :: vs) (d :: ds)
end
theorem Same.new {H : Hp} {p : Addr} {o : HO} (h : H p = none) : Same H (upd H p o) := fun b u e => by
  rw [upd_ne (ne_of_none e h)]
  exact e
/-- a change where D knows nothing -/
theorem Same.mut {D H : Hp} {p : Addr} {o : HO} (s : Same D H) (h : D p = none) : Same D (upd H p o) := fun b u e => by
  rw [upd_ne (ne_of_none e h)]
  exact s b u e
section
variable {D D' H H' : Hp}
mutual
theorem At.up (s : Same D D') : ∀ {v : V} {d : PyData}, At D v d → At D' v d
  | _, _, .non => .non
  | _, _, .bl b => .bl b
  | _, _, .int i => .int i
  | _, _, .str x => .str x
  | _, _, .lst h r => .lst (s _ _ h) (AtL.up s r)
  | _, _, .tup h r => .tup (s _ _ h) (AtL.up s r)
theorem AtL.up (s : Same D D') : ∀ {vs : List V} {ds : List PyData}, AtL D vs ds → AtL D' vs ds
  | _, _, .nil => .nil
  | _, _, .cons h r => .cons (At.up s h) (AtL.up s r)
end
mutual
theorem At.dp {K : PySem.W.Frag} (s : Same D H) : ∀ {v : V} {d : PyData}, At D v d → Dp K H v d
  | _, _, .non => .non
  | _, _, .bl b => .bl b
  | _, _, .int i => .int i
  | _, _, .str x => .str x
  | _, _, .lst h r => .lst (SqL.of (s _ _ h)) (AtL.dp s r)
  | _, _, .tup h r => .tup (SqT.of (s _ _ h)) (AtL.dp s r)
theorem AtL.dp {K : PySem.W.Frag} (s : Same D H) : ∀ {vs : List V} {ds : List PyData}, AtL D vs ds → DpAll K H vs ds
  | _, _, .nil => .nil
  | _, _, .cons h r => .cons (At.dp s h) (AtL.dp s r)
end
theorem At.int_is {v : V} {i : Int} (h : At D v (.int i)) : v = .int i := by cases h; rfl
theorem At.str_is {v : V} {i : Str} (h : At D v (.str i)) : v = .str i := by cases h; rfl
theorem At.non_is {v : V} (h : At D v .none) : v = .non := by cases h; rfl
theorem At.tup_is {v : V} {ds : List PyData} (h : At D v (.tuple ds)) : ∃ a xs, v = .ref a ∧ D a = some (.tup xs) ∧ AtL D xs ds := by
  cases h with
  | tup h r => exact ⟨_, _, rfl, h, r⟩
theorem At.lst_is {v : V} {ds : List PyData} (h : At D v (.list ds)) : ∃ a xs, v = .ref a ∧ D a = some (.lst xs) ∧ AtL D xs ds := by
  cases h with
  | lst h r => exact ⟨_, _, rfl, h, r⟩
theorem AtL.len : ∀ {vs : List V} {ds : List PyData}, AtL D vs ds → vs.length = ds.length
  | _, _, .nil => rfl
  | _, _, .cons _ r => by rw [List.length_cons, List.length_cons, AtL.len r]
theorem AtL.app : ∀ {vs ws : List V} {ds es : List PyData}, AtL D vs ds → AtL D ws es → AtL D (vs ++ ws) (ds ++ es)
  | _, _, _, _, .nil, r => r
  | _, _, _, _, .cons h t, r => .cons h (AtL.app t r)
theorem AtL.one {v : V} {d : PyData} (h : At D v d) : AtL D [v] [d] := .cons h .nil
theorem AtL.snoc {vs : List V} {ds : List PyData} {v : V} {d : PyData} (r : AtL D vs ds) (h : At D v d) : AtL D (vs ++ [v]) (ds ++ [d]) := r.app (.one h)
theorem AtL.take : ∀ {vs : List V} {ds : List PyData} (n : Nat), AtL D vs ds → AtL D (vs.take n) (ds.take n)
  | _, _, 0, _ => .nil
  | _, _, _ + 1, .nil => .nil
  | _, _, n + 1, .cons h r => .cons h (AtL.take n r)
theorem AtL.drop : ∀ {vs : List V} {ds : List PyData} (n : Nat), AtL D vs ds → AtL D (vs.drop n) (ds.drop n)
  | _, _, 0, r => r
  | _, _, _ + 1, .nil => .nil
  | _, _, n + 1, .cons _ r => AtL.drop n r
theorem AtL.erase : ∀ {vs : List V} {ds : List PyData} (n : Nat), AtL D vs ds → AtL D (vs.eraseIdx n) (ds.eraseIdx n)
  | _, _, _, .nil => .nil
  | _, _, 0, .cons _ r => r
  | _, _, n + 1, .cons h r => .cons h (AtL.erase n r)
/-- the i-th value has the i-th datum -/
theorem AtL.get : ∀ {vs : List V} {ds : List PyData} {i : Nat} {d : PyData}, AtL D vs ds → ds[i]? = some d → ∃ v, vs[i]? = some v ∧ At D v d
  | _, _, _, _, .nil, e => by simp at e
  | _, _, 0, _, .cons h _, e => by cases (Option.some.inj (show some _ = some _ from e)); exact ⟨_, rfl, h⟩
  | _, _, i + 1, _, .cons _ r, e => AtL.get (i := i) r e
theorem AtL.getV : ∀ {vs : List V} {ds : List PyData} {i : Nat} {v : V}, AtL D vs ds → vs[i]? = some v → ∃ d, ds[i]? = some d ∧ At D v d
  | _, _, _, _, .nil, e => by simp at e
  | _, _, 0, _, .cons h _, e => by cases (Option.some.inj (show some _ = some _ from e)); exact ⟨_, rfl, h⟩
  | _, _, i + 1, _, .cons _ r, e => AtL.getV (i := i) r e
theorem AtL.ints : ∀ {vs : List V} {ns : List Int}, AtL D vs (ns.map PyData.int) ↔ vs = ns.map V.int
  | vs, [] => ⟨fun h => by cases h; rfl, fun h => by subst h; exact .nil⟩
  | vs, n :: ns => by
    constructor
    · intro h
      cases h with
      | cons h1 h2 => rw [h1.int_is, AtL.ints.mp h2]; rfl
    · intro h
      subst h
      exact .cons (.int n) (AtL.ints.mpr rfl)
theorem AtL.strs : ∀ {vs : List V} {ns : List Str}, AtL D vs (ns.map PyData.str) ↔ vs = ns.map V.str
  | vs, [] => ⟨fun h => by cases h; rfl, fun h => by subst h; exact .nil⟩
  | vs, n :: ns => by
    constructor
    · intro h
      cases h with
      | cons h1 h2 => rw [h1.str_is, AtL.strs.mp h2]; rfl
    · intro h
      subst h
      exact .cons (.str n) (AtL.strs.mpr rfl)
/-! ### the heap: D within H, and beside it what may change, one by one -/
def Hs (D : Hp) (ms : List (Addr × HO)) (H : Hp) : Prop := Same D H ∧ (∀ p ∈ ms, D p.1 = none ∧ H p.1 = some p.2) ∧ (ms.map (·.1)).Nodup
variable {ms fr : List (Addr × HO)} {a p : Addr} {o o' : HO}
theorem Hs.same (h : Hs D ms H) : Same D H := h.1
theorem Hs.at_ (h : Hs D ms H) {q : Addr × HO} (m : q ∈ ms) : H q.1 = some q.2 := (h.2.1 q m).2
theorem Hs.get (h : Hs D ms H) (i : Nat) (e : ms[i]? = some (a, o)) : H a = some o := (h.2.1 (a, o) (List.mem_of_getElem? e)).2
theorem Hs.out (h : Hs D ms H) (i : Nat) (e : ms[i]? = some (a, o)) : D a = none := (h.2.1 (a, o) (List.mem_of_getElem? e)).1
theorem Hs.free (h : Hs D ms H) (hp : H p = none) : D p = none := by
  cases e : D p with
  | none => rfl
  | some u => rw [h.1 p u e] at hp; cases hp
theorem Hs.apart (h : Hs D ms H) (hp : H p = none) : ∀ q ∈ ms, q.1 ≠ p := fun q m z => by
  have := h.at_ m
  rw [z, hp] at this
  cases this
/-- a new object that stays -/
theorem Hs.new (h : Hs D ms H) (hp : H p = none) (o : HO) : Hs (upd D p o) ms (upd H p o) ∧ Same D (upd D p o) := by
  have np := h.free hp
  refine ⟨⟨fun b u e => ?_, fun q m => ?_, h.2.2⟩, Same.new np⟩
  · by_cases hb : b = p
    · subst hb
      rw [upd_same] at e ⊢
      exact e
    · rw [upd_ne hb] at e ⊢
      exact h.1 b u e
  · have n := h.apart hp q m
    rw [upd_ne n, upd_ne n]
    exact h.2.1 q m
/-- a new object that may change -/
theorem Hs.put (h : Hs D ms H) (hp : H p = none) (o : HO) : Hs D ((p, o) :: ms) (upd H p o) := by
  refine ⟨Same.mut h.1 (h.free hp), fun q m => ?_, ?_⟩
  · rcases List.mem_cons.mp m with e | m
    · subst e
      exact ⟨h.free hp, upd_same⟩
    · rw [upd_ne (h.apart hp q m)]
      exact h.2.1 q m
  · rw [List.map_cons, List.nodup_cons]
    refine ⟨fun m => ?_, h.2.2⟩
    obtain ⟨q, mq, e⟩ := List.mem_map.mp m
    exact h.apart hp q mq e
/-- a new object that nobody asks for -/
theorem Hs.tmp (h : Hs D ms H) (hp : H p = none) (o : HO) : Hs D ms (upd H p o) :=
  ⟨Same.mut h.1 (h.free hp), fun q m => ⟨(h.2.1 q m).1, by rw [upd_ne (h.apart hp q m)]; exact (h.2.1 q m).2⟩, h.2.2⟩
theorem set_keys : ∀ {ms : List (Addr × HO)} {i : Nat}, ms[i]? = some (a, o) → (ms.set i (a, o')).map (·.1) = ms.map (·.1)
  | [], i, e => by simp at e
  | q :: ms, 0, e => by
    cases (Option.some.inj (show some q = some (a, o) from e))
    rfl
  | q :: ms, i + 1, e => by
    have ih := set_keys (ms := ms) (i := i) e
    exact congrArg (fun z => q.1 :: z) ih
/-- the i-th of what may change is changed -/
theorem Hs.upd (h : Hs D ms H) (i : Nat) (e : ms[i]? = some (a, o)) (o' : HO) : Hs D (ms.set i (a, o')) (L2.upd H a o') := by
  refine ⟨Same.mut h.1 (h.out i e), fun q m => ?_, by rw [set_keys e]; exact h.2.2⟩
  obtain ⟨j, hj⟩ := List.mem_iff_getElem?.mp m
  by_cases hij : i = j
  · subst hij
    have l : i < ms.length := (List.getElem?_eq_some_iff.mp e).1
    rw [List.getElem?_set_self l] at hj
    cases hj
    exact ⟨h.out i e, upd_same⟩
  · rw [List.getElem?_set_ne hij] at hj
    have mq := List.mem_of_getElem? hj
    have n : q.1 ≠ a := fun z => by
      have k1 : (ms.map (·.1))[i]? = some a := by rw [List.getElem?_map, e]; rfl
      have k2 : (ms.map (·.1))[j]? = some a := by rw [List.getElem?_map, hj, ← z]; rfl
      obtain ⟨l1, e1⟩ := List.getElem?_eq_some_iff.mp k1
      obtain ⟨l2, e2⟩ := List.getElem?_eq_some_iff.mp k2
      exact hij ((List.getElem_inj h.2.2).mp (e1.trans e2.symm))
    rw [upd_ne n]
    exact h.2.1 q mq
theorem Hs.sub {ms' : List (Addr × HO)} (h : Hs D ms H) (s : ms'.Sublist ms) : Hs D ms' H :=
  ⟨h.1, fun q m => h.2.1 q (s.subset m), h.2.2.sublist (s.map _)⟩
theorem Hs.drop (h : Hs D ms H) (i : Nat) : Hs D (ms.eraseIdx i) H := h.sub (List.eraseIdx_sublist _ _)
theorem Hs.perm {ms' : List (Addr × HO)} (h : Hs D ms H) (s : ms'.Perm ms) : Hs D ms' H :=
  ⟨h.1, fun q m => h.2.1 q (s.mem_iff.mp m), (s.map _).nodup_iff.mpr h.2.2⟩
/-- the first of what may change stays from now on as it is -/
theorem Hs.fix (h : Hs D ((a, o) :: ms) H) : Hs (L2.upd D a o) ms H ∧ Same D (L2.upd D a o) := by
  have na : D a = none := h.out 0 rfl
  have nd := h.2.2
  rw [List.map_cons, List.nodup_cons] at nd
  refine ⟨⟨fun b u e => ?_, fun q m => ?_, nd.2⟩, Same.new na⟩
  · by_cases hb : b = a
    · subst hb
      rw [upd_same] at e
      cases e
      exact h.get 0 rfl
    · rw [upd_ne hb] at e
      exact h.1 b u e
  · have n : q.1 ≠ a := fun z => nd.1 (List.mem_map.mpr ⟨q, m, z⟩)
    rw [upd_ne n]
    exact h.2.1 q (List.mem_cons_of_mem _ m)
/-- forgetting: nothing may change any more -/
theorem Hs.nil_of (s : Same D H) : Hs D [] H := ⟨s, by simp, List.nodup_nil⟩
end
/-! ### small lengths -/
theorem sz {n : Nat} (h : n ≤ 100000) : n ≤ sizeLine := Nat.le_trans h (by decide)
theorem szl {n : Nat} (h : n < 100000) : n < sizeLine := Nat.lt_of_lt_of_le h (by decide)
theorem atI_of {α : Type} {xs : List α} {i : Int} {n : Nat} {v : α} (e : i = (n : Int)) (h : xs[n]? = some v) : atI xs i = some v := by
  subst e
  exact atI_nat h
/-! ### text A2 -/
/-! ## the text by places -/
def top (i : Nat) : Stmt := PySem.Challenge.pw_suretrips_k77_whole_books_told_in_any_wo.main.body.getD i (.Pass ⟨0, 0, 0, 0⟩)
abbrev s_is_word : Stmt := top 21
abbrev s_is_number : Stmt := top 22
abbrev s_row_end : Stmt := top 23
abbrev s_token_at : Stmt := top 24
abbrev s_token_from : Stmt := top 25
abbrev s_is_integer : Stmt := top 27
abbrev s_is_road : Stmt := top 28
abbrev s_trip_error : Stmt := top 29
abbrev s_stretch_error : Stmt := top 31
abbrev s_are_marks : Stmt := top 33
abbrev s_question_error : Stmt := top 34
abbrev s_Tokens_init : Stmt := inClass (top 36) 0
abbrev s_Tokens_look : Stmt := inClass (top 36) 1
abbrev s_Tokens_is_sign : Stmt := inClass (top 36) 2
abbrev s_Tokens_is_named : Stmt := inClass (top 36) 3
abbrev s_Tokens_is_counted : Stmt := inClass (top 36) 4
abbrev s_Tokens_advance : Stmt := inClass (top 36) 6
abbrev s_Tokens_need : Stmt := inClass (top 36) 7
abbrev s_Tokens_one_of : Stmt := inClass (top 36) 8
abbrev s_Tokens_name : Stmt := inClass (top 36) 9
abbrev s_Tokens_number : Stmt := inClass (top 36) 10
abbrev s_Words_init : Stmt := inClass (top 37) 0
abbrev s_Words_road : Stmt := inClass (top 37) 1
abbrev s_Words_roads : Stmt := inClass (top 37) 2
abbrev s_Words_question : Stmt := inClass (top 37) 3
abbrev s_Words_saying : Stmt := inClass (top 37) 4
abbrev s_Words_trip : Stmt := inClass (top 37) 5
abbrev s_Words_ask : Stmt := inClass (top 37) 6
abbrev s_asked_question : Stmt := top 38
abbrev s_need_question : Stmt := top 39
abbrev s_ring_of : Stmt := top 40
abbrev s_ordered : Stmt := top 41
abbrev s_Reader_init : Stmt := inClass (top 42) 0
abbrev s_Reader_fresh : Stmt := inClass (top 42) 1
abbrev s_Reader_place : Stmt := inClass (top 42) 2
abbrev s_Reader_read_places : Stmt := inClass (top 42) 3
abbrev s_Reader_read_hole : Stmt := inClass (top 42) 4
abbrev s_Reader_read_road : Stmt := inClass (top 42) 5
abbrev s_Reader_read_known : Stmt := inClass (top 42) 6
abbrev s_Reader_read_ask : Stmt := inClass (top 42) 7
abbrev s_Reader_read : Stmt := inClass (top 42) 8
abbrev s_read_book : Stmt := top 43
abbrev s_law_stock : Stmt := top 45
abbrev s_law_draw : Stmt := top 46
abbrev s_law_pick : Stmt := top 47
abbrev s_law_shuffled : Stmt := top 48
abbrev s_law_net : Stmt := top 49
abbrev s_law_trips : Stmt := top 50
abbrev s_law_stretch : Stmt := top 53
abbrev s_law_question : Stmt := top 54
abbrev s_law_saying : Stmt := top 56
abbrev s_law_unlike : Stmt := top 57
abbrev s_law_hole : Stmt := top 58
abbrev s_law_deal : Stmt := top 59
abbrev s_law_asked : Stmt := top 60
abbrev s_law_order : Stmt := top 61
abbrev s_law_made : Stmt := top 62
abbrev s_law_question_words : Stmt := top 63
abbrev s_law_saying_words : Stmt := top 64
abbrev s_law_ask_words : Stmt := top 65
abbrev s_law_hole_tokens : Stmt := top 66
abbrev s_law_told_words : Stmt := top 67
abbrev s_law_lines : Stmt := top 68
abbrev s_law_joined : Stmt := top 69
abbrev s_law_mixed_net : Stmt := top 70
abbrev s_law_moved : Stmt := top 71
abbrev s_law : Stmt := top 72
def kws_0 : List Str := ["along", "ask", "both", "follow", "followers", "in", "known", "least"]
def kws_1 : List Str := ["most", "not", "out", "places", "road", "say", "sure", "touch"]
def kws : List Str := kws_0 ++ kws_1
/-- a def of the module -/
structure DefAt (K : PySem.W.Frag) (mg : Str → Option Value) (x : Str) (st : Stmt) : Prop where
  ex : ∃ (f : Addr) (fd : FuncData), FunD K x x (defArgs st) (defBody st) (defScope st) [] [] f fd ∧ mg x = some (.ref f)
/-- a method of the class c; its __init__ -/
structure MetAt (K : PySem.W.Frag) (c m q : Str) (st : Stmt) : Prop where
  ex : ∃ fd : FuncData, FunD K m q (defArgs st) (defBody st) (defScope st) [] [] (He.ma K (He.ga K c) m) fd ∧ Meth K (He.ga K c) m (He.ma K (He.ga K c) m)
structure IniAt (K : PySem.W.Frag) (c : Str) (st : Stmt) : Prop where
  ex : ∃ (fd : FuncData) (q : Str), FunD K "__init__" q (defArgs st) (defBody st) (defScope st) [] [] (He.ma K (He.ga K c) "__init__") fd
/-- what the top leaves -/
structure Txt (K : PySem.W.Frag) (mg : Str → Option Value) : Prop where
  b_len : mg "len" = none
  b_isinstance : mg "isinstance" = none
  b_int : mg "int" = none
  b_str : mg "str" = none
  b_bool : mg "bool" = none
  b_tuple : mg "tuple" = none
  b_list : mg "list" = none
  b_range : mg "range" = none
  b_sorted : mg "sorted" = none
  b_zip : mg "zip" = none
  b_enumerate : mg "enumerate" = none
  b_sum : mg "sum" = none
  b_min : mg "min" = none
  b_max : mg "max" = none
  b_all : mg "all" = none
  b_dict : mg "dict" = none
  b_repr : mg "repr" = none
  g_MAX_PLACES : ∃ u, mg "MAX_PLACES" = some u ∧ RelV (.int (24)) u
  g_MAX_ROADS : ∃ u, mg "MAX_ROADS" = some u ∧ RelV (.int (60)) u
  g_MAX_COUNT : ∃ u, mg "MAX_COUNT" = some u ∧ RelV (.int (10 ^ 30)) u
  g_MAX_HOLE : ∃ u, mg "MAX_HOLE" = some u ∧ RelV (.int (10 ^ 28)) u
  g_MAX_NOTS : ∃ u, mg "MAX_NOTS" = some u ∧ RelV (.int (8)) u
  g_MAX_ASKS : ∃ u, mg "MAX_ASKS" = some u ∧ RelV (.int (40)) u
  g_MOST_SIGNS : ∃ u, mg "MOST_SIGNS" = some u ∧ RelV (.int (8)) u
  g_MOST_FIGURES : ∃ u, mg "MOST_FIGURES" = some u ∧ RelV (.int (31)) u
  g_LETTERS : ∃ u, mg "LETTERS" = some u ∧ RelV (.str "abcdefghijklmnopqrstuvwxyz") u
  g_FIGURES : ∃ u, mg "FIGURES" = some u ∧ RelV (.str "0123456789") u
  g_SINGLE : ∃ u, mg "SINGLE" = some u ∧ RelV (.str ";:>?") u
  g_KEYWORDS : ∃ u, mg "KEYWORDS" = some u ∧ RelV (.ref (He.ga K "KEYWORDS")) u
  kwT : ∀ H, SqT K H (He.ga K "KEYWORDS") (kws.map V.str)
  c_Tokens : Cls K (He.ga K "Tokens")
  g_Tokens : mg "Tokens" = some (.ref (He.ga K "Tokens"))
  k_Tokens : Mk K (He.ga K "Tokens") (He.ma K (He.ga K "Tokens") "__init__")
  n_Tokens_value : NoAttr K (He.ga K "Tokens") "value"
  n_Tokens_place : NoAttr K (He.ga K "Tokens") "place"
  n_Tokens_token : NoAttr K (He.ga K "Tokens") "token"
  c_Words : Cls K (He.ga K "Words")
  g_Words : mg "Words" = some (.ref (He.ga K "Words"))
  k_Words : Mk K (He.ga K "Words") (He.ma K (He.ga K "Words") "__init__")
  n_Words_left : NoAttr K (He.ga K "Words") "left"
  n_Words_names : NoAttr K (He.ga K "Words") "names"
  n_Words_ground : NoAttr K (He.ga K "Words") "ground"
  c_Reader : Cls K (He.ga K "Reader")
  g_Reader : mg "Reader" = some (.ref (He.ga K "Reader"))
  k_Reader : Mk K (He.ga K "Reader") (He.ma K (He.ga K "Reader") "__init__")
  n_Reader_left : NoAttr K (He.ga K "Reader") "left"
  n_Reader_places : NoAttr K (He.ga K "Reader") "places"
  n_Reader_names : NoAttr K (He.ga K "Reader") "names"
  n_Reader_told : NoAttr K (He.ga K "Reader") "told"
  n_Reader_holes : NoAttr K (He.ga K "Reader") "holes"
  n_Reader_first : NoAttr K (He.ga K "Reader") "first"
  n_Reader_last : NoAttr K (He.ga K "Reader") "last"
  d_is_word : DefAt K mg "is_word" s_is_word
  d_is_number : DefAt K mg "is_number" s_is_number
  d_row_end : DefAt K mg "row_end" s_row_end
  d_token_at : DefAt K mg "token_at" s_token_at
  d_token_from : DefAt K mg "token_from" s_token_from
  d_is_integer : DefAt K mg "is_integer" s_is_integer
  d_is_road : DefAt K mg "is_road" s_is_road
  d_trip_error : DefAt K mg "trip_error" s_trip_error
  d_stretch_error : DefAt K mg "stretch_error" s_stretch_error
  d_are_marks : DefAt K mg "are_marks" s_are_marks
  d_question_error : DefAt K mg "question_error" s_question_error
  i_Tokens : IniAt K "Tokens" s_Tokens_init
  m_Tokens_look : MetAt K "Tokens" "look" "Tokens.look" s_Tokens_look
  m_Tokens_is_sign : MetAt K "Tokens" "is_sign" "Tokens.is_sign" s_Tokens_is_sign
  m_Tokens_is_named : MetAt K "Tokens" "is_named" "Tokens.is_named" s_Tokens_is_named
  m_Tokens_is_counted : MetAt K "Tokens" "is_counted" "Tokens.is_counted" s_Tokens_is_counted
  m_Tokens_advance : MetAt K "Tokens" "advance" "Tokens.advance" s_Tokens_advance
  m_Tokens_need : MetAt K "Tokens" "need" "Tokens.need" s_Tokens_need
  m_Tokens_one_of : MetAt K "Tokens" "one_of" "Tokens.one_of" s_Tokens_one_of
  m_Tokens_name : MetAt K "Tokens" "name" "Tokens.name" s_Tokens_name
  m_Tokens_number : MetAt K "Tokens" "number" "Tokens.number" s_Tokens_number
  i_Words : IniAt K "Words" s_Words_init
  m_Words_road : MetAt K "Words" "road" "Words.road" s_Words_road
  m_Words_roads : MetAt K "Words" "roads" "Words.roads" s_Words_roads
  m_Words_question : MetAt K "Words" "question" "Words.question" s_Words_question
  m_Words_saying : MetAt K "Words" "saying" "Words.saying" s_Words_saying
  m_Words_trip : MetAt K "Words" "trip" "Words.trip" s_Words_trip
  m_Words_ask : MetAt K "Words" "ask" "Words.ask" s_Words_ask
  d_asked_question : DefAt K mg "asked_question" s_asked_question
  d_need_question : DefAt K mg "need_question" s_need_question
  d_ring_of : DefAt K mg "ring_of" s_ring_of
  d_ordered : DefAt K mg "ordered" s_ordered
  i_Reader : IniAt K "Reader" s_Reader_init
  m_Reader_fresh : MetAt K "Reader" "fresh" "Reader.fresh" s_Reader_fresh
  m_Reader_place : MetAt K "Reader" "place" "Reader.place" s_Reader_place
  m_Reader_read_places : MetAt K "Reader" "read_places" "Reader.read_places" s_Reader_read_places
  m_Reader_read_hole : MetAt K "Reader" "read_hole" "Reader.read_hole" s_Reader_read_hole
  m_Reader_read_road : MetAt K "Reader" "read_road" "Reader.read_road" s_Reader_read_road
  m_Reader_read_known : MetAt K "Reader" "read_known" "Reader.read_known" s_Reader_read_known
  m_Reader_read_ask : MetAt K "Reader" "read_ask" "Reader.read_ask" s_Reader_read_ask
  m_Reader_read : MetAt K "Reader" "read" "Reader.read" s_Reader_read
  d_read_book : DefAt K mg "read_book" s_read_book
  d_law_stock : DefAt K mg "_law_stock" s_law_stock
  d_law_draw : DefAt K mg "_law_draw" s_law_draw
  d_law_pick : DefAt K mg "_law_pick" s_law_pick
  d_law_shuffled : DefAt K mg "_law_shuffled" s_law_shuffled
  d_law_net : DefAt K mg "_law_net" s_law_net
  d_law_trips : DefAt K mg "_law_trips" s_law_trips
  d_law_stretch : DefAt K mg "_law_stretch" s_law_stretch
  d_law_question : DefAt K mg "_law_question" s_law_question
  d_law_saying : DefAt K mg "_law_saying" s_law_saying
  d_law_unlike : DefAt K mg "_law_unlike" s_law_unlike
  d_law_hole : DefAt K mg "_law_hole" s_law_hole
  d_law_deal : DefAt K mg "_law_deal" s_law_deal
  d_law_asked : DefAt K mg "_law_asked" s_law_asked
  d_law_order : DefAt K mg "_law_order" s_law_order
  d_law_made : DefAt K mg "_law_made" s_law_made
  d_law_question_words : DefAt K mg "_law_question_words" s_law_question_words
  d_law_saying_words : DefAt K mg "_law_saying_words" s_law_saying_words
  d_law_ask_words : DefAt K mg "_law_ask_words" s_law_ask_words
  d_law_hole_tokens : DefAt K mg "_law_hole_tokens" s_law_hole_tokens
  d_law_told_words : DefAt K mg "_law_told_words" s_law_told_words
  d_law_lines : DefAt K mg "_law_lines" s_law_lines
  d_law_joined : DefAt K mg "_law_joined" s_law_joined
  d_law_mixed_net : DefAt K mg "_law_mixed_net" s_law_mixed_net
  d_law_moved : DefAt K mg "_law_moved" s_law_moved
  d_law : DefAt K mg "law" s_law
section
variable {P : Program} {w : World} {K : PySem.W.Frag} {mg : Str → Option Value} {base : Heap} {N ps : List Str} {k : Nat} {sp : Sp} {st : Stmt} {x c m q : Str}
/-- how plain parameters bind -/
def BindsPlain (st : Stmt) (x q : Str) (ps : List Str) : Prop := ∀ (kV doc pm : Value) (an : Option Addr) (cdv ct : Value) (us : List Value), us.length = ps.length → bindArgs (PySem.W.fnOf x q (defArgs st) (defBody st) (defScope st) .none kV doc pm an cdv ct) ⟨us, []⟩ = pure (ps.zip us)
def Body (P : Program) (w : World) (K : PySem.W.Frag) (mg : Str → Option Value) (base : Heap) (N : List Str) (q : Str) (st : Stmt) (k : Nat) (sp : Sp) : Prop :=
  ∀ (f : Addr) (cdv : Value) (A : Around) (outer : List Env) (s : Shared) (H : Hp) (vs : List V) (Q : VK) (E : XK), Room k (A.deeper (envOfC q (defScope st) s.heap.objs.size f cdv)) → sp vs H Q E →
    ∃ t, PSs (cxOf CX0 P w K mg base N q (defScope st) f cdv A outer s H E).nox (defBody st) t ∧ t { nx := fun _ H' => Q .non H', rt := Q } (start N vs) H
theorem cal_mk (d : DefAt K mg x st) (sc : FnScope N ps (defScope st)) (hb : BindsPlain st x x ps) (len : ∀ vs H Q E, sp vs H Q E → vs.length = ps.length) (b : Body P w K mg base N x st k sp) : C8.Cal P w K mg base (k + 1) x sp [] := by
  obtain ⟨f, fd, F, g⟩ := d.ex
  refine ⟨f, fd, ps, [], F.ok sc len fun cdv A outer s H vs Q E hr h => ?_, g, F.kp, F.bindsN hb, .nil⟩
  obtain ⟨t, ht, q⟩ := b f cdv A outer s H vs Q E hr h
  exact ⟨t, PSs.nox ht, q⟩
theorem met_mk (d : MetAt K c m q st) (cl : Cls K (He.ga K c)) (sc : FnScope N ps (defScope st)) (hb : BindsPlain st m q ps) (len : ∀ vs H Q E, sp vs H Q E → vs.length = ps.length) (b : Body P w K mg base N q st k sp) : C8.Met P w K mg base (k + 1) (He.ga K c) m sp [] := by
  obtain ⟨fd, F, g⟩ := d.ex
  refine ⟨_, fd, ps, [], cl, g, F.ok sc len fun cdv A outer s H vs Q E hr h => ?_, F.bindsN hb, .nil⟩
  obtain ⟨t, ht, q⟩ := b _ cdv A outer s H vs Q E hr h
  exact ⟨t, PSs.nox ht, q⟩
theorem mak_mk (d : IniAt K c st) (M : Mk K (He.ga K c) (He.ma K (He.ga K c) "__init__")) (g : mg c = some (.ref (He.ga K c))) (sc : FnScope N ps (defScope st)) (hb : ∀ q, BindsPlain st "__init__" q ps) (len : ∀ vs H Q E, sp vs H Q E → vs.length = ps.length) (b : ∀ q, Body P w K mg base N q st k sp) : C8.Mak P w K mg base (k + 1) c (He.ga K c) sp [] := by
  obtain ⟨fd, q, F⟩ := d.ex
  refine ⟨_, fd, ps, [], M, F.ok sc len fun cdv A outer s H vs Q E hr h => ?_, g, F.bindsN (hb q), .nil⟩
  obtain ⟨t, ht, q⟩ := b q _ cdv A outer s H vs Q E hr h
  exact ⟨t, PSs.nox ht, q⟩
end
/-! ### text Z2 -/
/-! ## the head: facts by names -/
def hd_d_is_word : He.DefD := ⟨("is_word", none), "is_word", "is_word", defArgs s_is_word, defBody s_is_word, defScope s_is_word, [], []⟩
def hd_d_is_number : He.DefD := ⟨("is_number", none), "is_number", "is_number", defArgs s_is_number, defBody s_is_number, defScope s_is_number, [], []⟩
def hd_d_row_end : He.DefD := ⟨("row_end", none), "row_end", "row_end", defArgs s_row_end, defBody s_row_end, defScope s_row_end, [], []⟩
def hd_d_token_at : He.DefD := ⟨("token_at", none), "token_at", "token_at", defArgs s_token_at, defBody s_token_at, defScope s_token_at, [], []⟩
def hd_d_token_from : He.DefD := ⟨("token_from", none), "token_from", "token_from", defArgs s_token_from, defBody s_token_from, defScope s_token_from, [], []⟩
def hd_d_is_integer : He.DefD := ⟨("is_integer", none), "is_integer", "is_integer", defArgs s_is_integer, defBody s_is_integer, defScope s_is_integer, [], []⟩
def hd_d_is_road : He.DefD := ⟨("is_road", none), "is_road", "is_road", defArgs s_is_road, defBody s_is_road, defScope s_is_road, [], []⟩
def hd_d_trip_error : He.DefD := ⟨("trip_error", none), "trip_error", "trip_error", defArgs s_trip_error, defBody s_trip_error, defScope s_trip_error, [], []⟩
def hd_d_stretch_error : He.DefD := ⟨("stretch_error", none), "stretch_error", "stretch_error", defArgs s_stretch_error, defBody s_stretch_error, defScope s_stretch_error, [], []⟩
def hd_d_are_marks : He.DefD := ⟨("are_marks", none), "are_marks", "are_marks", defArgs s_are_marks, defBody s_are_marks, defScope s_are_marks, [], []⟩
def hd_d_question_error : He.DefD := ⟨("question_error", none), "question_error", "question_error", defArgs s_question_error, defBody s_question_error, defScope s_question_error, [], []⟩
def hd_d_Tokens_init : He.DefD := ⟨("Tokens", some "__init__"), "__init__", "Tokens.__init__", defArgs s_Tokens_init, defBody s_Tokens_init, defScope s_Tokens_init, [], []⟩
def hd_d_Tokens_look : He.DefD := ⟨("Tokens", some "look"), "look", "Tokens.look", defArgs s_Tokens_look, defBody s_Tokens_look, defScope s_Tokens_look, [], []⟩
def hd_d_Tokens_is_sign : He.DefD := ⟨("Tokens", some "is_sign"), "is_sign", "Tokens.is_sign", defArgs s_Tokens_is_sign, defBody s_Tokens_is_sign, defScope s_Tokens_is_sign, [], []⟩
def hd_d_Tokens_is_named : He.DefD := ⟨("Tokens", some "is_named"), "is_named", "Tokens.is_named", defArgs s_Tokens_is_named, defBody s_Tokens_is_named, defScope s_Tokens_is_named, [], []⟩
def hd_d_Tokens_is_counted : He.DefD := ⟨("Tokens", some "is_counted"), "is_counted", "Tokens.is_counted", defArgs s_Tokens_is_counted, defBody s_Tokens_is_counted, defScope s_Tokens_is_counted, [], []⟩
def hd_d_Tokens_advance : He.DefD := ⟨("Tokens", some "advance"), "advance", "Tokens.advance", defArgs s_Tokens_advance, defBody s_Tokens_advance, defScope s_Tokens_advance, [], []⟩
def hd_d_Tokens_need : He.DefD := ⟨("Tokens", some "need"), "need", "Tokens.need", defArgs s_Tokens_need, defBody s_Tokens_need, defScope s_Tokens_need, [], []⟩
def hd_d_Tokens_one_of : He.DefD := ⟨("Tokens", some "one_of"), "one_of", "Tokens.one_of", defArgs s_Tokens_one_of, defBody s_Tokens_one_of, defScope s_Tokens_one_of, [], []⟩
def hd_d_Tokens_name : He.DefD := ⟨("Tokens", some "name"), "name", "Tokens.name", defArgs s_Tokens_name, defBody s_Tokens_name, defScope s_Tokens_name, [], []⟩
def hd_d_Tokens_number : He.DefD := ⟨("Tokens", some "number"), "number", "Tokens.number", defArgs s_Tokens_number, defBody s_Tokens_number, defScope s_Tokens_number, [], []⟩
def hd_d_Words_init : He.DefD := ⟨("Words", some "__init__"), "__init__", "Words.__init__", defArgs s_Words_init, defBody s_Words_init, defScope s_Words_init, [], []⟩
def hd_d_Words_road : He.DefD := ⟨("Words", some "road"), "road", "Words.road", defArgs s_Words_road, defBody s_Words_road, defScope s_Words_road, [], []⟩
def hd_d_Words_roads : He.DefD := ⟨("Words", some "roads"), "roads", "Words.roads", defArgs s_Words_roads, defBody s_Words_roads, defScope s_Words_roads, [], []⟩
def hd_d_Words_question : He.DefD := ⟨("Words", some "question"), "question", "Words.question", defArgs s_Words_question, defBody s_Words_question, defScope s_Words_question, [], []⟩
def hd_d_Words_saying : He.DefD := ⟨("Words", some "saying"), "saying", "Words.saying", defArgs s_Words_saying, defBody s_Words_saying, defScope s_Words_saying, [], []⟩
def hd_d_Words_trip : He.DefD := ⟨("Words", some "trip"), "trip", "Words.trip", defArgs s_Words_trip, defBody s_Words_trip, defScope s_Words_trip, [], []⟩
def hd_d_Words_ask : He.DefD := ⟨("Words", some "ask"), "ask", "Words.ask", defArgs s_Words_ask, defBody s_Words_ask, defScope s_Words_ask, [], []⟩
def hd_d_asked_question : He.DefD := ⟨("asked_question", none), "asked_question", "asked_question", defArgs s_asked_question, defBody s_asked_question, defScope s_asked_question, [], []⟩
def hd_d_need_question : He.DefD := ⟨("need_question", none), "need_question", "need_question", defArgs s_need_question, defBody s_need_question, defScope s_need_question, [], []⟩
def hd_d_ring_of : He.DefD := ⟨("ring_of", none), "ring_of", "ring_of", defArgs s_ring_of, defBody s_ring_of, defScope s_ring_of, [], []⟩
def hd_d_ordered : He.DefD := ⟨("ordered", none), "ordered", "ordered", defArgs s_ordered, defBody s_ordered, defScope s_ordered, [], []⟩
def hd_d_Reader_init : He.DefD := ⟨("Reader", some "__init__"), "__init__", "Reader.__init__", defArgs s_Reader_init, defBody s_Reader_init, defScope s_Reader_init, [], []⟩
def hd_d_Reader_fresh : He.DefD := ⟨("Reader", some "fresh"), "fresh", "Reader.fresh", defArgs s_Reader_fresh, defBody s_Reader_fresh, defScope s_Reader_fresh, [], []⟩
def hd_d_Reader_place : He.DefD := ⟨("Reader", some "place"), "place", "Reader.place", defArgs s_Reader_place, defBody s_Reader_place, defScope s_Reader_place, [], []⟩
def hd_d_Reader_read_places : He.DefD := ⟨("Reader", some "read_places"), "read_places", "Reader.read_places", defArgs s_Reader_read_places, defBody s_Reader_read_places, defScope s_Reader_read_places, [], []⟩
def hd_d_Reader_read_hole : He.DefD := ⟨("Reader", some "read_hole"), "read_hole", "Reader.read_hole", defArgs s_Reader_read_hole, defBody s_Reader_read_hole, defScope s_Reader_read_hole, [], []⟩
def hd_d_Reader_read_road : He.DefD := ⟨("Reader", some "read_road"), "read_road", "Reader.read_road", defArgs s_Reader_read_road, defBody s_Reader_read_road, defScope s_Reader_read_road, [], []⟩
def hd_d_Reader_read_known : He.DefD := ⟨("Reader", some "read_known"), "read_known", "Reader.read_known", defArgs s_Reader_read_known, defBody s_Reader_read_known, defScope s_Reader_read_known, [], []⟩
def hd_d_Reader_read_ask : He.DefD := ⟨("Reader", some "read_ask"), "read_ask", "Reader.read_ask", defArgs s_Reader_read_ask, defBody s_Reader_read_ask, defScope s_Reader_read_ask, [], []⟩
def hd_d_Reader_read : He.DefD := ⟨("Reader", some "read"), "read", "Reader.read", defArgs s_Reader_read, defBody s_Reader_read, defScope s_Reader_read, [], []⟩
def hd_d_read_book : He.DefD := ⟨("read_book", none), "read_book", "read_book", defArgs s_read_book, defBody s_read_book, defScope s_read_book, [], []⟩
def hd_d_law_stock : He.DefD := ⟨("_law_stock", none), "_law_stock", "_law_stock", defArgs s_law_stock, defBody s_law_stock, defScope s_law_stock, [], []⟩
def hd_d_law_draw : He.DefD := ⟨("_law_draw", none), "_law_draw", "_law_draw", defArgs s_law_draw, defBody s_law_draw, defScope s_law_draw, [], []⟩
def hd_d_law_pick : He.DefD := ⟨("_law_pick", none), "_law_pick", "_law_pick", defArgs s_law_pick, defBody s_law_pick, defScope s_law_pick, [], []⟩
def hd_d_law_shuffled : He.DefD := ⟨("_law_shuffled", none), "_law_shuffled", "_law_shuffled", defArgs s_law_shuffled, defBody s_law_shuffled, defScope s_law_shuffled, [], []⟩
def hd_d_law_net : He.DefD := ⟨("_law_net", none), "_law_net", "_law_net", defArgs s_law_net, defBody s_law_net, defScope s_law_net, [], []⟩
def hd_d_law_trips : He.DefD := ⟨("_law_trips", none), "_law_trips", "_law_trips", defArgs s_law_trips, defBody s_law_trips, defScope s_law_trips, [], []⟩
def hd_d_law_stretch : He.DefD := ⟨("_law_stretch", none), "_law_stretch", "_law_stretch", defArgs s_law_stretch, defBody s_law_stretch, defScope s_law_stretch, [], []⟩
def hd_d_law_question : He.DefD := ⟨("_law_question", none), "_law_question", "_law_question", defArgs s_law_question, defBody s_law_question, defScope s_law_question, [], []⟩
def hd_d_law_saying : He.DefD := ⟨("_law_saying", none), "_law_saying", "_law_saying", defArgs s_law_saying, defBody s_law_saying, defScope s_law_saying, [], []⟩
def hd_d_law_unlike : He.DefD := ⟨("_law_unlike", none), "_law_unlike", "_law_unlike", defArgs s_law_unlike, defBody s_law_unlike, defScope s_law_unlike, [], []⟩
def hd_d_law_hole : He.DefD := ⟨("_law_hole", none), "_law_hole", "_law_hole", defArgs s_law_hole, defBody s_law_hole, defScope s_law_hole, [], []⟩
def hd_d_law_deal : He.DefD := ⟨("_law_deal", none), "_law_deal", "_law_deal", defArgs s_law_deal, defBody s_law_deal, defScope s_law_deal, [], []⟩
def hd_d_law_asked : He.DefD := ⟨("_law_asked", none), "_law_asked", "_law_asked", defArgs s_law_asked, defBody s_law_asked, defScope s_law_asked, [], []⟩
def hd_d_law_order : He.DefD := ⟨("_law_order", none), "_law_order", "_law_order", defArgs s_law_order, defBody s_law_order, defScope s_law_order, [], []⟩
def hd_d_law_made : He.DefD := ⟨("_law_made", none), "_law_made", "_law_made", defArgs s_law_made, defBody s_law_made, defScope s_law_made, [], []⟩
def hd_d_law_question_words : He.DefD := ⟨("_law_question_words", none), "_law_question_words", "_law_question_words", defArgs s_law_question_words, defBody s_law_question_words, defScope s_law_question_words, [], []⟩
def hd_d_law_saying_words : He.DefD := ⟨("_law_saying_words", none), "_law_saying_words", "_law_saying_words", defArgs s_law_saying_words, defBody s_law_saying_words, defScope s_law_saying_words, [], []⟩
def hd_d_law_ask_words : He.DefD := ⟨("_law_ask_words", none), "_law_ask_words", "_law_ask_words", defArgs s_law_ask_words, defBody s_law_ask_words, defScope s_law_ask_words, [], []⟩
def hd_d_law_hole_tokens : He.DefD := ⟨("_law_hole_tokens", none), "_law_hole_tokens", "_law_hole_tokens", defArgs s_law_hole_tokens, defBody s_law_hole_tokens, defScope s_law_hole_tokens, [], []⟩
def hd_d_law_told_words : He.DefD := ⟨("_law_told_words", none), "_law_told_words", "_law_told_words", defArgs s_law_told_words, defBody s_law_told_words, defScope s_law_told_words, [], []⟩
def hd_d_law_lines : He.DefD := ⟨("_law_lines", none), "_law_lines", "_law_lines", defArgs s_law_lines, defBody s_law_lines, defScope s_law_lines, [], []⟩
def hd_d_law_joined : He.DefD := ⟨("_law_joined", none), "_law_joined", "_law_joined", defArgs s_law_joined, defBody s_law_joined, defScope s_law_joined, [], []⟩
def hd_d_law_mixed_net : He.DefD := ⟨("_law_mixed_net", none), "_law_mixed_net", "_law_mixed_net", defArgs s_law_mixed_net, defBody s_law_mixed_net, defScope s_law_mixed_net, [], []⟩
def hd_d_law_moved : He.DefD := ⟨("_law_moved", none), "_law_moved", "_law_moved", defArgs s_law_moved, defBody s_law_moved, defScope s_law_moved, [], []⟩
def hd_d_law : He.DefD := ⟨("law", none), "law", "law", defArgs s_law, defBody s_law, defScope s_law, [], []⟩
def fn_0 : List He.DefD := [hd_d_is_word, hd_d_is_number, hd_d_row_end, hd_d_token_at, hd_d_token_from, hd_d_is_integer, hd_d_is_road, hd_d_trip_error, hd_d_stretch_error, hd_d_are_marks, hd_d_question_error, hd_d_Tokens_init]
def fn_1 : List He.DefD := [hd_d_Tokens_look, hd_d_Tokens_is_sign, hd_d_Tokens_is_named, hd_d_Tokens_is_counted, hd_d_Tokens_advance, hd_d_Tokens_need, hd_d_Tokens_one_of, hd_d_Tokens_name, hd_d_Tokens_number, hd_d_Words_init, hd_d_Words_road, hd_d_Words_roads]
def fn_2 : List He.DefD := [hd_d_Words_question, hd_d_Words_saying, hd_d_Words_trip, hd_d_Words_ask, hd_d_asked_question, hd_d_need_question, hd_d_ring_of, hd_d_ordered, hd_d_Reader_init, hd_d_Reader_fresh, hd_d_Reader_place, hd_d_Reader_read_places]
def fn_3 : List He.DefD := [hd_d_Reader_read_hole, hd_d_Reader_read_road, hd_d_Reader_read_known, hd_d_Reader_read_ask, hd_d_Reader_read, hd_d_read_book, hd_d_law_stock, hd_d_law_draw, hd_d_law_pick, hd_d_law_shuffled, hd_d_law_net, hd_d_law_trips]
def fn_4 : List He.DefD := [hd_d_law_stretch, hd_d_law_question, hd_d_law_saying, hd_d_law_unlike, hd_d_law_hole, hd_d_law_deal, hd_d_law_asked, hd_d_law_order, hd_d_law_made, hd_d_law_question_words, hd_d_law_saying_words, hd_d_law_ask_words]
def fn_5 : List He.DefD := [hd_d_law_hole_tokens, hd_d_law_told_words, hd_d_law_lines, hd_d_law_joined, hd_d_law_mixed_net, hd_d_law_moved, hd_d_law]
def fn : List He.DefD := fn_0 ++ fn_1 ++ fn_2 ++ fn_3 ++ fn_4 ++ fn_5
def fa_0 : List He.Fa := [.free "len", .free "isinstance", .free "int", .free "str", .free "bool", .free "tuple", .free "list", .free "range", .free "sorted", .free "zip", .free "enumerate", .free "sum"]
def fa_1 : List He.Fa := [.free "min", .free "max", .free "all", .free "dict", .free "repr", .int "MAX_PLACES" (24), .int "MAX_ROADS" (60), .int "MAX_COUNT" (10 ^ 30), .int "MAX_HOLE" (10 ^ 28), .int "MAX_NOTS" (8), .int "MAX_ASKS" (40), .int "MOST_SIGNS" (8)]
def fa_2 : List He.Fa := [.int "MOST_FIGURES" (31), .str "LETTERS" "abcdefghijklmnopqrstuvwxyz", .str "FIGURES" "0123456789", .str "SINGLE" ";:>?", .glo "KEYWORDS", .cls "Tokens", .glo "Tokens", .mkr "Tokens", .noat "Tokens" "value", .noat "Tokens" "place", .noat "Tokens" "token", .cls "Words"]
def fa_3 : List He.Fa := [.glo "Words", .mkr "Words", .noat "Words" "left", .noat "Words" "names", .noat "Words" "ground", .cls "Reader", .glo "Reader", .mkr "Reader", .noat "Reader" "left", .noat "Reader" "places", .noat "Reader" "names", .noat "Reader" "told"]
def fa_4 : List He.Fa := [.noat "Reader" "holes", .noat "Reader" "first", .noat "Reader" "last", .glo "is_word", .glo "is_number", .glo "row_end", .glo "token_at", .glo "token_from", .glo "is_integer", .glo "is_road", .glo "trip_error", .glo "stretch_error"]
def fa_5 : List He.Fa := [.glo "are_marks", .glo "question_error", .meth "Tokens" "look", .meth "Tokens" "is_sign", .meth "Tokens" "is_named", .meth "Tokens" "is_counted", .meth "Tokens" "advance", .meth "Tokens" "need", .meth "Tokens" "one_of", .meth "Tokens" "name", .meth "Tokens" "number", .meth "Words" "road"]
def fa_6 : List He.Fa := [.meth "Words" "roads", .meth "Words" "question", .meth "Words" "saying", .meth "Words" "trip", .meth "Words" "ask", .glo "asked_question", .glo "need_question", .glo "ring_of", .glo "ordered", .meth "Reader" "fresh", .meth "Reader" "place", .meth "Reader" "read_places"]
def fa_7 : List He.Fa := [.meth "Reader" "read_hole", .meth "Reader" "read_road", .meth "Reader" "read_known", .meth "Reader" "read_ask", .meth "Reader" "read", .glo "read_book", .glo "_law_stock", .glo "_law_draw", .glo "_law_pick", .glo "_law_shuffled", .glo "_law_net", .glo "_law_trips"]
def fa_8 : List He.Fa := [.glo "_law_stretch", .glo "_law_question", .glo "_law_saying", .glo "_law_unlike", .glo "_law_hole", .glo "_law_deal", .glo "_law_asked", .glo "_law_order", .glo "_law_made", .glo "_law_question_words", .glo "_law_saying_words", .glo "_law_ask_words"]
def fa_9 : List He.Fa := [.glo "_law_hole_tokens", .glo "_law_told_words", .glo "_law_lines", .glo "_law_joined", .glo "_law_mixed_net", .glo "_law_moved", .glo "law"]
def fa : List He.Fa := fa_0 ++ fa_1 ++ fa_2 ++ fa_3 ++ fa_4 ++ fa_5 ++ fa_6 ++ fa_7 ++ fa_8 ++ fa_9
def loose_0 : List Str := ["MAX_PLACES", "MAX_ROADS", "MAX_COUNT", "MAX_HOLE", "MAX_NOTS", "MAX_ASKS", "TripError", "Unfit", "BadText", "TooMany", "NoName", "Taken"]
def loose_1 : List Str := ["Ring", "KEYWORDS", "LETTERS", "FIGURES", "SINGLE", "MOST_SIGNS", "MOST_FIGURES", "is_word", "is_number", "row_end", "token_at", "token_from"]
def loose_2 : List Str := ["is_integer", "is_road", "trip_error", "stretch_error", "are_marks", "question_error", "Tokens", "Words", "asked_question", "need_question", "ring_of", "ordered"]
def loose_3 : List Str := ["Reader", "read_book", "_law_stock", "_law_draw", "_law_pick", "_law_shuffled", "_law_net", "_law_trips", "_law_takes", "_law_number", "_law_stretch", "_law_question"]
def loose_4 : List Str := ["_law_holds", "_law_saying", "_law_unlike", "_law_hole", "_law_deal", "_law_asked", "_law_order", "_law_made", "_law_question_words", "_law_saying_words", "_law_ask_words", "_law_hole_tokens"]
def loose_5 : List Str := ["_law_told_words", "_law_lines", "_law_joined", "_law_mixed_net", "_law_moved"]
def loose : List Str := loose_0 ++ loose_1 ++ loose_2 ++ loose_3 ++ loose_4 ++ loose_5
def kwDv : List He.Dv := kws.map He.Dv.str
abbrev Seen : Type := Bool × He.AlD
def lookK (K : PySem.W.Frag) : Seen := (He.tupB K "KEYWORDS" kwDv, He.obsD fa fn K)
/-- what leads on from an object: a dict's values, a def's code, a class's names -/
def nextA (o : Obj) : List Addr := match o.data with
  | .dict es _ => es.toList.flatMap fun e => He.refV e.val
  | .func fd => He.refV fd.code
  | .cls cd => [cd.ns]
  | _ => []
def stepA (g : Addr → Option Obj) (as : List Addr) : List Addr := as.flatMap fun a => match g a with
  | some o => nextA o
  | none => []
/-- from the module's names: defs and classes, code and methods, the methods' code -/
def seenA (g : Addr → Option Obj) : Nat → List Addr → List Addr
  | 0, as => as
  | n + 1, as => as ++ seenA g n (stepA g as)
def lookG (g : Addr → Option Obj) : Seen := lookK (He.frG g (seenA g 4 [mainGlobals]))
def seenV : Seen := (true, He.valD fn)
def hk : PySem.W.Hook where
  α := Seen
  obs := fun s => lookG s.heap.get?
  val := fun _ => seenV
  says := fun _ h => ∃ K : PySem.W.Frag, K.In h ∧ lookK K = seenV
  of := fun _ _ e => ⟨_, He.frG_in, e⟩
  keeps := fun _ _ _ hs k => by
    obtain ⟨K, hK, c⟩ := hs
    exact ⟨K, PySem.W.Frag.In.keeps hK k, c⟩
def ob (s : PySem.W.SharedT) : Seen := lookG (HandSHeadRun.getT s)
theorem ob_eq (s : PySem.W.SharedT) : ob s = hk.obs s.abs := by
  have e : HandSHeadRun.getT s = s.abs.heap.get? := funext fun b => HandSHeadRun.getT_eq s b
  unfold ob
  rw [e] <;> rfl
theorem kw_tup {K : PySem.W.Frag} (h : He.tupB K "KEYWORDS" kwDv = true) : ∀ H, SqT K H (He.ga K "KEYWORDS") (kws.map V.str) := fun H => by
  have e := He.tupB_ok h H
  rw [show kwDv.map (He.Dv.v K) = kws.map V.str by unfold kwDv; rw [List.map_map] <;> rfl] at e
  exact e
theorem says_two {K : PySem.W.Frag} (h : lookK K = seenV) : He.tupB K "KEYWORDS" kwDv = true ∧ He.SaysD fa fn K :=
  ⟨congrArg (fun z : Seen => z.1) h, congrArg (fun z : Seen => z.2) h⟩
theorem txt_of {K : PySem.W.Frag} {h : Heap} {mg : Str → Option Value} (X : K.In h) (G : h.Ns mainGlobals mg) (ct : He.tupB K "KEYWORDS" kwDv = true) (c : He.SaysD fa fn K) : Txt K mg where
  b_len := He.free_ok X G (c.fact 0 (f := .free "len") rfl)
  b_isinstance := He.free_ok X G (c.fact 1 (f := .free "isinstance") rfl)
  b_int := He.free_ok X G (c.fact 2 (f := .free "int") rfl)
  b_str := He.free_ok X G (c.fact 3 (f := .free "str") rfl)
  b_bool := He.free_ok X G (c.fact 4 (f := .free "bool") rfl)
  b_tuple := He.free_ok X G (c.fact 5 (f := .free "tuple") rfl)
  b_list := He.free_ok X G (c.fact 6 (f := .free "list") rfl)
  b_range := He.free_ok X G (c.fact 7 (f := .free "range") rfl)
  b_sorted := He.free_ok X G (c.fact 8 (f := .free "sorted") rfl)
  b_zip := He.free_ok X G (c.fact 9 (f := .free "zip") rfl)
  b_enumerate := He.free_ok X G (c.fact 10 (f := .free "enumerate") rfl)
  b_sum := He.free_ok X G (c.fact 11 (f := .free "sum") rfl)
  b_min := He.free_ok X G (c.fact 12 (f := .free "min") rfl)
  b_max := He.free_ok X G (c.fact 13 (f := .free "max") rfl)
  b_all := He.free_ok X G (c.fact 14 (f := .free "all") rfl)
  b_dict := He.free_ok X G (c.fact 15 (f := .free "dict") rfl)
  b_repr := He.free_ok X G (c.fact 16 (f := .free "repr") rfl)
  g_MAX_PLACES := by
    obtain ⟨t, e⟩ := He.int_ok X G (c.fact 17 (f := .int "MAX_PLACES" (24)) rfl)
    exact ⟨_, e, t, rfl⟩
  g_MAX_ROADS := by
    obtain ⟨t, e⟩ := He.int_ok X G (c.fact 18 (f := .int "MAX_ROADS" (60)) rfl)
    exact ⟨_, e, t, rfl⟩
  g_MAX_COUNT := by
    obtain ⟨t, e⟩ := He.int_ok X G (c.fact 19 (f := .int "MAX_COUNT" (10 ^ 30)) rfl)
    exact ⟨_, e, t, rfl⟩
  g_MAX_HOLE := by
    obtain ⟨t, e⟩ := He.int_ok X G (c.fact 20 (f := .int "MAX_HOLE" (10 ^ 28)) rfl)
    exact ⟨_, e, t, rfl⟩
  g_MAX_NOTS := by
    obtain ⟨t, e⟩ := He.int_ok X G (c.fact 21 (f := .int "MAX_NOTS" (8)) rfl)
    exact ⟨_, e, t, rfl⟩
  g_MAX_ASKS := by
    obtain ⟨t, e⟩ := He.int_ok X G (c.fact 22 (f := .int "MAX_ASKS" (40)) rfl)
    exact ⟨_, e, t, rfl⟩
  g_MOST_SIGNS := by
    obtain ⟨t, e⟩ := He.int_ok X G (c.fact 23 (f := .int "MOST_SIGNS" (8)) rfl)
    exact ⟨_, e, t, rfl⟩
  g_MOST_FIGURES := by
    obtain ⟨t, e⟩ := He.int_ok X G (c.fact 24 (f := .int "MOST_FIGURES" (31)) rfl)
    exact ⟨_, e, t, rfl⟩
  g_LETTERS := by
    obtain ⟨t, e⟩ := He.str_ok X G (c.fact 25 (f := .str "LETTERS" "abcdefghijklmnopqrstuvwxyz") rfl)
    exact ⟨_, e, t, rfl⟩
  g_FIGURES := by
    obtain ⟨t, e⟩ := He.str_ok X G (c.fact 26 (f := .str "FIGURES" "0123456789") rfl)
    exact ⟨_, e, t, rfl⟩
  g_SINGLE := by
    obtain ⟨t, e⟩ := He.str_ok X G (c.fact 27 (f := .str "SINGLE" ";:>?") rfl)
    exact ⟨_, e, t, rfl⟩
  g_KEYWORDS := ⟨_, He.glo_ok X G (c.fact 28 (f := .glo "KEYWORDS") rfl), rfl⟩
  kwT := kw_tup ct
  c_Tokens := He.cls_ok (c.fact 29 (f := .cls "Tokens") rfl)
  g_Tokens := He.glo_ok X G (c.fact 30 (f := .glo "Tokens") rfl)
  k_Tokens := He.mkr_ok (c.fact 31 (f := .mkr "Tokens") rfl)
  n_Tokens_value := He.noat_ok (c.fact 32 (f := .noat "Tokens" "value") rfl)
  n_Tokens_place := He.noat_ok (c.fact 33 (f := .noat "Tokens" "place") rfl)
  n_Tokens_token := He.noat_ok (c.fact 34 (f := .noat "Tokens" "token") rfl)
  c_Words := He.cls_ok (c.fact 35 (f := .cls "Words") rfl)
  g_Words := He.glo_ok X G (c.fact 36 (f := .glo "Words") rfl)
  k_Words := He.mkr_ok (c.fact 37 (f := .mkr "Words") rfl)
  n_Words_left := He.noat_ok (c.fact 38 (f := .noat "Words" "left") rfl)
  n_Words_names := He.noat_ok (c.fact 39 (f := .noat "Words" "names") rfl)
  n_Words_ground := He.noat_ok (c.fact 40 (f := .noat "Words" "ground") rfl)
  c_Reader := He.cls_ok (c.fact 41 (f := .cls "Reader") rfl)
  g_Reader := He.glo_ok X G (c.fact 42 (f := .glo "Reader") rfl)
  k_Reader := He.mkr_ok (c.fact 43 (f := .mkr "Reader") rfl)
  n_Reader_left := He.noat_ok (c.fact 44 (f := .noat "Reader" "left") rfl)
  n_Reader_places := He.noat_ok (c.fact 45 (f := .noat "Reader" "places") rfl)
  n_Reader_names := He.noat_ok (c.fact 46 (f := .noat "Reader" "names") rfl)
  n_Reader_told := He.noat_ok (c.fact 47 (f := .noat "Reader" "told") rfl)
  n_Reader_holes := He.noat_ok (c.fact 48 (f := .noat "Reader" "holes") rfl)
  n_Reader_first := He.noat_ok (c.fact 49 (f := .noat "Reader" "first") rfl)
  n_Reader_last := He.noat_ok (c.fact 50 (f := .noat "Reader" "last") rfl)
  d_is_word := by
    obtain ⟨fd, F⟩ := c.def_ 0 (d := hd_d_is_word) rfl
    exact ⟨_, fd, F, He.glo_ok X G (c.fact 51 (f := .glo "is_word") rfl)⟩
  d_is_number := by
    obtain ⟨fd, F⟩ := c.def_ 1 (d := hd_d_is_number) rfl
    exact ⟨_, fd, F, He.glo_ok X G (c.fact 52 (f := .glo "is_number") rfl)⟩
  d_row_end := by
    obtain ⟨fd, F⟩ := c.def_ 2 (d := hd_d_row_end) rfl
    exact ⟨_, fd, F, He.glo_ok X G (c.fact 53 (f := .glo "row_end") rfl)⟩
  d_token_at := by
    obtain ⟨fd, F⟩ := c.def_ 3 (d := hd_d_token_at) rfl
    exact ⟨_, fd, F, He.glo_ok X G (c.fact 54 (f := .glo "token_at") rfl)⟩
  d_token_from := by
    obtain ⟨fd, F⟩ := c.def_ 4 (d := hd_d_token_from) rfl
    exact ⟨_, fd, F, He.glo_ok X G (c.fact 55 (f := .glo "token_from") rfl)⟩
  d_is_integer := by
    obtain ⟨fd, F⟩ := c.def_ 5 (d := hd_d_is_integer) rfl
    exact ⟨_, fd, F, He.glo_ok X G (c.fact 56 (f := .glo "is_integer") rfl)⟩
  d_is_road := by
    obtain ⟨fd, F⟩ := c.def_ 6 (d := hd_d_is_road) rfl
    exact ⟨_, fd, F, He.glo_ok X G (c.fact 57 (f := .glo "is_road") rfl)⟩
  d_trip_error := by
    obtain ⟨fd, F⟩ := c.def_ 7 (d := hd_d_trip_error) rfl
    exact ⟨_, fd, F, He.glo_ok X G (c.fact 58 (f := .glo "trip_error") rfl)⟩
  d_stretch_error := by
    obtain ⟨fd, F⟩ := c.def_ 8 (d := hd_d_stretch_error) rfl
    exact ⟨_, fd, F, He.glo_ok X G (c.fact 59 (f := .glo "stretch_error") rfl)⟩
  d_are_marks := by
    obtain ⟨fd, F⟩ := c.def_ 9 (d := hd_d_are_marks) rfl
    exact ⟨_, fd, F, He.glo_ok X G (c.fact 60 (f := .glo "are_marks") rfl)⟩
  d_question_error := by
    obtain ⟨fd, F⟩ := c.def_ 10 (d := hd_d_question_error) rfl
    exact ⟨_, fd, F, He.glo_ok X G (c.fact 61 (f := .glo "question_error") rfl)⟩
  i_Tokens := by
    obtain ⟨fd, F⟩ := c.def_ 11 (d := hd_d_Tokens_init) rfl
    exact ⟨fd, _, F⟩
  m_Tokens_look := by
    obtain ⟨fd, F⟩ := c.def_ 12 (d := hd_d_Tokens_look) rfl
    exact ⟨fd, F, He.meth_ok (c.fact 62 (f := .meth "Tokens" "look") rfl)⟩
  m_Tokens_is_sign := by
    obtain ⟨fd, F⟩ := c.def_ 13 (d := hd_d_Tokens_is_sign) rfl
    exact ⟨fd, F, He.meth_ok (c.fact 63 (f := .meth "Tokens" "is_sign") rfl)⟩
  m_Tokens_is_named := by
    obtain ⟨fd, F⟩ := c.def_ 14 (d := hd_d_Tokens_is_named) rfl
    exact ⟨fd, F, He.meth_ok (c.fact 64 (f := .meth "Tokens" "is_named") rfl)⟩
  m_Tokens_is_counted := by
    obtain ⟨fd, F⟩ := c.def_ 15 (d := hd_d_Tokens_is_counted) rfl
    exact ⟨fd, F, He.meth_ok (c.fact 65 (f := .meth "Tokens" "is_counted") rfl)⟩
  m_Tokens_advance := by
    obtain ⟨fd, F⟩ := c.def_ 16 (d := hd_d_Tokens_advance) rfl
    exact ⟨fd, F, He.meth_ok (c.fact 66 (f := .meth "Tokens" "advance") rfl)⟩
  m_Tokens_need := by
    obtain ⟨fd, F⟩ := c.def_ 17 (d := hd_d_Tokens_need) rfl
    exact ⟨fd, F, He.meth_ok (c.fact 67 (f := .meth "Tokens" "need") rfl)⟩
  m_Tokens_one_of := by
    obtain ⟨fd, F⟩ := c.def_ 18 (d := hd_d_Tokens_one_of) rfl
    exact ⟨fd, F, He.meth_ok (c.fact 68 (f := .meth "Tokens" "one_of") rfl)⟩
  m_Tokens_name := by
    obtain ⟨fd, F⟩ := c.def_ 19 (d := hd_d_Tokens_name) rfl
    exact ⟨fd, F, He.meth_ok (c.fact 69 (f := .meth "Tokens" "name") rfl)⟩
  m_Tokens_number := by
    obtain ⟨fd, F⟩ := c.def_ 20 (d := hd_d_Tokens_number) rfl
    exact ⟨fd, F, He.meth_ok (c.fact 70 (f := .meth "Tokens" "number") rfl)⟩
  i_Words := by
    obtain ⟨fd, F⟩ := c.def_ 21 (d := hd_d_Words_init) rfl
    exact ⟨fd, _, F⟩
  m_Words_road := by
    obtain ⟨fd, F⟩ := c.def_ 22 (d := hd_d_Words_road) rfl
    exact ⟨fd, F, He.meth_ok (c.fact 71 (f := .meth "Words" "road") rfl)⟩
  m_Words_roads := by
    obtain ⟨fd, F⟩ := c.def_ 23 (d := hd_d_Words_roads) rfl
    exact ⟨fd, F, He.meth_ok (c.fact 72 (f := .meth "Words" "roads") rfl)⟩
  m_Words_question := by
    obtain ⟨fd, F⟩ := c.def_ 24 (d := hd_d_Words_question) rfl
    exact ⟨fd, F, He.meth_ok (c.fact 73 (f := .meth "Words" "question") rfl)⟩
  m_Words_saying := by
    obtain ⟨fd, F⟩ := c.def_ 25 (d := hd_d_Words_saying) rfl
    exact ⟨fd, F, He.meth_ok (c.fact 74 (f := .meth "Words" "saying") rfl)⟩
  m_Words_trip := by
    obtain ⟨fd, F⟩ := c.def_ 26 (d := hd_d_Words_trip) rfl
    exact ⟨fd, F, He.meth_ok (c.fact 75 (f := .meth "Words" "trip") rfl)⟩
  m_Words_ask := by
    obtain ⟨fd, F⟩ := c.def_ 27 (d := hd_d_Words_ask) rfl
    exact ⟨fd, F, He.meth_ok (c.fact 76 (f := .meth "Words" "ask") rfl)⟩
  d_asked_question := by
    obtain ⟨fd, F⟩ := c.def_ 28 (d := hd_d_asked_question) rfl
    exact ⟨_, fd, F, He.glo_ok X G (c.fact 77 (f := .glo "asked_question") rfl)⟩
  d_need_question := by
    obtain ⟨fd, F⟩ := c.def_ 29 (d := hd_d_need_question) rfl
    exact ⟨_, fd, F, He.glo_ok X G (c.fact 78 (f := .glo "need_question") rfl)⟩
  d_ring_of := by
    obtain ⟨fd, F⟩ := c.def_ 30 (d := hd_d_ring_of) rfl
    exact ⟨_, fd, F, He.glo_ok X G (c.fact 79 (f := .glo "ring_of") rfl)⟩
  d_ordered := by
    obtain ⟨fd, F⟩ := c.def_ 31 (d := hd_d_ordered) rfl
    exact ⟨_, fd, F, He.glo_ok X G (c.fact 80 (f := .glo "ordered") rfl)⟩
  i_Reader := by
    obtain ⟨fd, F⟩ := c.def_ 32 (d := hd_d_Reader_init) rfl
    exact ⟨fd, _, F⟩
  m_Reader_fresh := by
    obtain ⟨fd, F⟩ := c.def_ 33 (d := hd_d_Reader_fresh) rfl
    exact ⟨fd, F, He.meth_ok (c.fact 81 (f := .meth "Reader" "fresh") rfl)⟩
  m_Reader_place := by
    obtain ⟨fd, F⟩ := c.def_ 34 (d := hd_d_Reader_place) rfl
    exact ⟨fd, F, He.meth_ok (c.fact 82 (f := .meth "Reader" "place") rfl)⟩
  m_Reader_read_places := by
    obtain ⟨fd, F⟩ := c.def_ 35 (d := hd_d_Reader_read_places) rfl
    exact ⟨fd, F, He.meth_ok (c.fact 83 (f := .meth "Reader" "read_places") rfl)⟩
  m_Reader_read_hole := by
    obtain ⟨fd, F⟩ := c.def_ 36 (d := hd_d_Reader_read_hole) rfl
    exact ⟨fd, F, He.meth_ok (c.fact 84 (f := .meth "Reader" "read_hole") rfl)⟩
  m_Reader_read_road := by
    obtain ⟨fd, F⟩ := c.def_ 37 (d := hd_d_Reader_read_road) rfl
    exact ⟨fd, F, He.meth_ok (c.fact 85 (f := .meth "Reader" "read_road") rfl)⟩
  m_Reader_read_known := by
    obtain ⟨fd, F⟩ := c.def_ 38 (d := hd_d_Reader_read_known) rfl
    exact ⟨fd, F, He.meth_ok (c.fact 86 (f := .meth "Reader" "read_known") rfl)⟩
  m_Reader_read_ask := by
    obtain ⟨fd, F⟩ := c.def_ 39 (d := hd_d_Reader_read_ask) rfl
    exact ⟨fd, F, He.meth_ok (c.fact 87 (f := .meth "Reader" "read_ask") rfl)⟩
  m_Reader_read := by
    obtain ⟨fd, F⟩ := c.def_ 40 (d := hd_d_Reader_read) rfl
    exact ⟨fd, F, He.meth_ok (c.fact 88 (f := .meth "Reader" "read") rfl)⟩
  d_read_book := by
    obtain ⟨fd, F⟩ := c.def_ 41 (d := hd_d_read_book) rfl
    exact ⟨_, fd, F, He.glo_ok X G (c.fact 89 (f := .glo "read_book") rfl)⟩
  d_law_stock := by
    obtain ⟨fd, F⟩ := c.def_ 42 (d := hd_d_law_stock) rfl
    exact ⟨_, fd, F, He.glo_ok X G (c.fact 90 (f := .glo "_law_stock") rfl)⟩
  d_law_draw := by
    obtain ⟨fd, F⟩ := c.def_ 43 (d := hd_d_law_draw) rfl
    exact ⟨_, fd, F, He.glo_ok X G (c.fact 91 (f := .glo "_law_draw") rfl)⟩
  d_law_pick := by
    obtain ⟨fd, F⟩ := c.def_ 44 (d := hd_d_law_pick) rfl
    exact ⟨_, fd, F, He.glo_ok X G (c.fact 92 (f := .glo "_law_pick") rfl)⟩
  d_law_shuffled := by
    obtain ⟨fd, F⟩ := c.def_ 45 (d := hd_d_law_shuffled) rfl
    exact ⟨_, fd, F, He.glo_ok X G (c.fact 93 (f := .glo "_law_shuffled") rfl)⟩
  d_law_net := by
    obtain ⟨fd, F⟩ := c.def_ 46 (d := hd_d_law_net) rfl
    exact ⟨_, fd, F, He.glo_ok X G (c.fact 94 (f := .glo "_law_net") rfl)⟩
  d_law_trips := by
    obtain ⟨fd, F⟩ := c.def_ 47 (d := hd_d_law_trips) rfl
    exact ⟨_, fd, F, He.glo_ok X G (c.fact 95 (f := .glo "_law_trips") rfl)⟩
  d_law_stretch := by
    obtain ⟨fd, F⟩ := c.def_ 48 (d := hd_d_law_stretch) rfl
    exact ⟨_, fd, F, He.glo_ok X G (c.fact 96 (f := .glo "_law_stretch") rfl)⟩
  d_law_question := by
    obtain ⟨fd, F⟩ := c.def_ 49 (d := hd_d_law_question) rfl
    exact ⟨_, fd, F, He.glo_ok X G (c.fact 97 (f := .glo "_law_question") rfl)⟩
  d_law_saying := by
    obtain ⟨fd, F⟩ := c.def_ 50 (d := hd_d_law_saying) rfl
    exact ⟨_, fd, F, He.glo_ok X G (c.fact 98 (f := .glo "_law_saying") rfl)⟩
  d_law_unlike := by
    obtain ⟨fd, F⟩ := c.def_ 51 (d := hd_d_law_unlike) rfl
    exact ⟨_, fd, F, He.glo_ok X G (c.fact 99 (f := .glo "_law_unlike") rfl)⟩
  d_law_hole := by
    obtain ⟨fd, F⟩ := c.def_ 52 (d := hd_d_law_hole) rfl
    exact ⟨_, fd, F, He.glo_ok X G (c.fact 100 (f := .glo "_law_hole") rfl)⟩
  d_law_deal := by
    obtain ⟨fd, F⟩ := c.def_ 53 (d := hd_d_law_deal) rfl
    exact ⟨_, fd, F, He.glo_ok X G (c.fact 101 (f := .glo "_law_deal") rfl)⟩
  d_law_asked := by
    obtain ⟨fd, F⟩ := c.def_ 54 (d := hd_d_law_asked) rfl
    exact ⟨_, fd, F, He.glo_ok X G (c.fact 102 (f := .glo "_law_asked") rfl)⟩
  d_law_order := by
    obtain ⟨fd, F⟩ := c.def_ 55 (d := hd_d_law_order) rfl
    exact ⟨_, fd, F, He.glo_ok X G (c.fact 103 (f := .glo "_law_order") rfl)⟩
  d_law_made := by
    obtain ⟨fd, F⟩ := c.def_ 56 (d := hd_d_law_made) rfl
    exact ⟨_, fd, F, He.glo_ok X G (c.fact 104 (f := .glo "_law_made") rfl)⟩
  d_law_question_words := by
    obtain ⟨fd, F⟩ := c.def_ 57 (d := hd_d_law_question_words) rfl
    exact ⟨_, fd, F, He.glo_ok X G (c.fact 105 (f := .glo "_law_question_words") rfl)⟩
  d_law_saying_words := by
    obtain ⟨fd, F⟩ := c.def_ 58 (d := hd_d_law_saying_words) rfl
    exact ⟨_, fd, F, He.glo_ok X G (c.fact 106 (f := .glo "_law_saying_words") rfl)⟩
  d_law_ask_words := by
    obtain ⟨fd, F⟩ := c.def_ 59 (d := hd_d_law_ask_words) rfl
    exact ⟨_, fd, F, He.glo_ok X G (c.fact 107 (f := .glo "_law_ask_words") rfl)⟩
  d_law_hole_tokens := by
    obtain ⟨fd, F⟩ := c.def_ 60 (d := hd_d_law_hole_tokens) rfl
    exact ⟨_, fd, F, He.glo_ok X G (c.fact 108 (f := .glo "_law_hole_tokens") rfl)⟩
  d_law_told_words := by
    obtain ⟨fd, F⟩ := c.def_ 61 (d := hd_d_law_told_words) rfl
    exact ⟨_, fd, F, He.glo_ok X G (c.fact 109 (f := .glo "_law_told_words") rfl)⟩
  d_law_lines := by
    obtain ⟨fd, F⟩ := c.def_ 62 (d := hd_d_law_lines) rfl
    exact ⟨_, fd, F, He.glo_ok X G (c.fact 110 (f := .glo "_law_lines") rfl)⟩
  d_law_joined := by
    obtain ⟨fd, F⟩ := c.def_ 63 (d := hd_d_law_joined) rfl
    exact ⟨_, fd, F, He.glo_ok X G (c.fact 111 (f := .glo "_law_joined") rfl)⟩
  d_law_mixed_net := by
    obtain ⟨fd, F⟩ := c.def_ 64 (d := hd_d_law_mixed_net) rfl
    exact ⟨_, fd, F, He.glo_ok X G (c.fact 112 (f := .glo "_law_mixed_net") rfl)⟩
  d_law_moved := by
    obtain ⟨fd, F⟩ := c.def_ 65 (d := hd_d_law_moved) rfl
    exact ⟨_, fd, F, He.glo_ok X G (c.fact 113 (f := .glo "_law_moved") rfl)⟩
  d_law := by
    obtain ⟨fd, F⟩ := c.def_ 66 (d := hd_d_law) rfl
    exact ⟨_, fd, F, He.glo_ok X G (c.fact 114 (f := .glo "law") rfl)⟩
theorem law_fun {K : PySem.W.Frag} (c : He.SaysD fa fn K) : ∃ fd, FunD K "law" "law" (defArgs s_law) (defBody s_law) (defScope s_law) [] [] (He.ga K "law") fd := c.def_ 66 (d := hd_d_law) rfl
theorem law_glo {K : PySem.W.Frag} {h : Heap} {mg : Str → Option Value} (X : K.In h) (G : h.Ns mainGlobals mg) (c : He.SaysD fa fn K) : mg "law" = some (.ref (He.ga K "law")) := He.glo_ok X G (c.fact 114 (f := .glo "law") rfl)
/-! ### text Z3 -/
abbrev R : PySem.W.OpenRow := PySem.W.OpenLaw.row PySem.Challenge.rw_suretrips_k77_whole_books_told_in_any_wo
set_option maxHeartbeats 0 in
theorem run (w : World) : HandSHeadRun.RunEq R (PySem.W.view R.prog [72]) hk ob 12000 loose w := by
  intro os
  kernel_rfl
/-! ### text A0 -/
/-! ## rules that the kit has not -/
section
variable {X : Cx}
/-! ### an attribute as a target -/
def gFld (K : PySem.W.Frag) (ta : TE) (f : Str) : TG := fun v σ H Q => ta σ H fun x H1 => ∃ a C dx fs, x = .ref a ∧ H1 a = some (.ins C dx fs) ∧ Cls K C ∧ NoAttr K C f ∧ fs.length < 1000 ∧ Q σ (upd H1 a (.ins C dx (putF f v fs)))
theorem pg_fld {o : Expr} {f : Str} {pos : Pos} {ta : TE} (ho : PE X o ta) : PG X (.Attribute o f pos) (gFld X.K ta f) := by
  constructor
  intro pins s σ H v u Q I r h
  rw [assign_Attribute]
  refine wpAny_bind (wpAny_holding (thn (ho.run pins s σ H _ I h) fun ov s1 hv => ?_))
  obtain ⟨x, H1, I1, rx, a, C, dx, fs, ex, ea, c, n, l, q⟩ := hv
  subst ex
  obtain rfl : ov = Value.ref a := rx
  refine wpAny_bind (wpAny_standAt (wpAny_bind (wpAny_holding ?_)))
  exact setattr_ok I1 ea c n l r fun s2 I2 => wpAny_release ⟨σ, _, I2, q⟩
/-! ### repr of data -/
theorem call_repr {k : Nat} (hg : X.A.guards = some []) (hr : Room k X.A) : CallR X (.builtin "repr") (fun xs H Q => ∃ a d, xs = [V.ref a] ∧ Dp X.K H (.ref a) d ∧ d.showable = true ∧ d.hasDict = false ∧ d.depth ≤ 60 ∧ d.shown.length ≤ sizeLine ∧ Q (.str d.shown) H) := by
  intro pins s σ H xs us Q I r h
  obtain ⟨a, d, rfl, hd, hs, hn, hdp, hz, q⟩ := h
  rw [Vals.ref1 r]
  obtain ⟨as, rd⟩ := Dp.reads I d (.ref a) (.ref a) hd rfl
  have hu := hr.units
  refine repr_of_reads' rd hs (PyData.noDict_hsm hn) hg (by omega) (fun _ _ e => e) (fun h' u tk hk => ?_) hz
  exact ⟨.str d.shown, H, I.kept hk, ⟨u, rfl⟩, q⟩
/-! ### sorted of tuples of ints, of any lengths -/
def tupI (b : List Int) : PyData := .tuple (b.map .int)
theorem alike_tupI (a b : List Int) : PySem.W.alike (tupI a) (tupI b) = true := by
  unfold tupI
  rw [PySem.W.alike]
  exact PySem.W.alike_ints a b
theorem eachOf {α : Type} {R : Value → α → Prop} {f : α → V} (h : ∀ u a, RelV (f a) u → R u a) : ∀ {zs : List α} {its : List Value}, Vals (zs.map f) its → PySem.W.EachIs R its zs
  | [], _, r => by
    cases r
    exact .nil
  | z :: zs, _, r => by
    cases r with
    | cons r1 r2 => exact .cons (h _ _ r1) (eachOf h r2)
theorem eachMem {α β : Type} {R R' : α → β → Prop} {S : β → Prop} (h : ∀ a b, R a b → S b → R' a b) : ∀ {as : List α} {bs : List β}, PySem.W.EachIs R as bs → (∀ b ∈ bs, S b) → PySem.W.EachIs R' as bs
  | _, _, .nil, _ => .nil
  | _, _, .cons r t, hs => .cons (h _ _ r (hs _ List.mem_cons_self)) (eachMem h t fun b hb => hs b (List.mem_cons_of_mem _ hb))
theorem eachVals {α : Type} {f : α → V} : ∀ {its : List Value} {zs : List α}, PySem.W.EachIs (fun u a => RelV (f a) u) its zs → Vals (zs.map f) its
  | _, _, .nil => .nil
  | _, _, .cons r t => .cons r (eachVals t)
theorem cr_sortedTup {k : Nat} (hr : Room k X.A) : CallR X (.builtin "sorted") (fun vs H Q => ∃ (a : Addr) (zs : List (V × List Int)), vs = [V.ref a] ∧ SqL X.K H a (zs.map (·.1)) ∧ (∀ z ∈ zs, Dp X.K H z.1 (tupI z.2) ∧ z.2 ≠ []) ∧
    ∀ (zs' : List (V × List Int)) (p : Addr), zs'.Perm zs → H p = none → Q (.ref p) (upd H p (.lst (zs'.map (·.1))))) := by
  intro pins s σ H vs us Q I r h
  obtain ⟨a, zs, rfl, hs, hz, q⟩ := h
  obtain ⟨its, rv, hl, hsz⟩ := I.list hs
  rw [Vals.ref1 r]
  have hu := hr.units
  have e : PySem.W.EachIs (fun u (z : V × List Int) => RelV z.1 u) its zs := eachOf (fun _ _ h => h) rv
  have er : PySem.W.EachIs (fun u (z : V × List Int) => ∃ as, Reads s.heap u (tupI z.2) as) its zs := eachMem (fun u z h1 h2 => Dp.reads I _ _ _ h2.1 h1) e hz
  have dep : ∀ b : List Int, (tupI b).depth ≤ 1 := fun b => by
    unfold tupI
    rw [PyData.depth]
    have : ∀ b : List Int, PyData.depthAll (b.map PyData.int) = 0 := fun b => by
      induction b with
      | nil => simp [PyData.depthAll]
      | cons x b ih => simp only [List.map_cons, PyData.depthAll, PyData.depth, ih]; rfl
    rw [this] <;> exact Nat.le_refl _
  refine PySem.W.sorted_data (enc := fun z : V × List Int => tupI z.2) (R := fun u z => RelV z.1 u) hl.isList e er (PySem.W.AllAlike.of fun b b' => alike_tupI b.2 b'.2) (.inl fun d hd => ?_) (by rw [← List.length_map (f := fun z : V × List Int => z.1)]; exact hsz) (fun b _ => ?_) fun out hlen hout => ?_
  · obtain ⟨z, mz, rfl⟩ := List.mem_map.mp hd
    obtain ⟨x, t, et⟩ := List.exists_cons_of_ne_nil (hz z mz).2
    exact ⟨.int x, t.map .int, by unfold tupI; rw [et] <;> rfl⟩
  · have := dep b.2
    omega
  · have hp := List.mergeSort_perm zs (PySem.W.dataLe false fun z : V × List Int => tupI z.2)
    generalize zs.mergeSort (PySem.W.dataLe false fun z : V × List Int => tupI z.2) = zs' at *
    have hv := eachVals hout
    obtain ⟨ep, he'⟩ := PyProof.Rows.sortedAll_at s.heap its out.toArray
    have hle : (zs'.map (·.1)).length ≤ sizeLine := by
      rw [List.length_map, hp.length_eq]
      rw [List.length_map] at hsz
      exact hsz
    exact ⟨.ref _, upd H (s.heap.objs.size + 1) (.lst (zs'.map (·.1))), I.laid (t' := s.toks) (fun _ _ => PyProof.Rows.sortedAll_old) (Nat.le_succ _) ⟨hle, out, ep, hv, he'⟩, rfl, q _ _ hp (I.hok.fresh (Nat.le_succ _))⟩
/-! ### xs.remove of a text that is there -/
theorem first_str : ∀ {ns : List Str} {k : Str}, k ∈ ns → ∃ j, j < ns.length ∧ ns[j]? = some k ∧ (∀ i, i < j → ns[i]? ≠ some k) ∧ ns.eraseIdx j = ns.erase k
  | [], k, h => absurd h (by simp)
  | a :: r, k, h => by
    by_cases e : a = k
    · subst e
      exact ⟨0, Nat.succ_pos _, rfl, fun i hi => absurd hi (Nat.not_lt_zero _), by rw [List.erase_cons_head] <;> rfl⟩
    · obtain ⟨j, h1, h2, h3, h4⟩ := first_str ((List.mem_cons.mp h).resolve_left fun z => e z.symm)
      refine ⟨j + 1, Nat.succ_lt_succ h1, h2, fun i hi => ?_, ?_⟩
      · cases i with
        | zero => exact fun z => e (Option.some.inj z)
        | succ i => exact h3 i (Nat.lt_of_succ_lt_succ hi)
      · rw [List.erase_cons_tail (by simpa using e), ← h4] <;> rfl
theorem strOf_at (k : Str) : ∀ {vs : List Value} {ns : List Str}, StrsAre vs ns → ∀ (i : Nat) (h : i < vs.length), isStrOf k vs[i] = true ↔ ns[i]? = some k
  | _, _, .nil, i, h => absurd h (by simp)
  | _, _, .cons n t hr, 0, _ => by
    show (n == k) = true ↔ some n = some k
    rw [beq_iff_eq, Option.some_inj]
  | _, _, .cons n t hr, i + 1, h => strOf_at k hr i (Nat.lt_of_succ_lt_succ h)
theorem map_eraseS (f : Str → V) : ∀ (ns : List Str) (j : Nat), (ns.map f).eraseIdx j = (ns.eraseIdx j).map f
  | [], _ => rfl
  | _ :: _, 0 => rfl
  | n :: r, j + 1 => congrArg (fun z => f n :: z) (map_eraseS f r j)
def rRemoveS : V → List V → Hp → VK → Prop := fun x vs H Q => ∃ (l : Addr) (ns : List Str) (k : Str), x = .ref l ∧ vs = [.str k] ∧ H l = some (.lst (ns.map V.str)) ∧ k ∈ ns ∧ Q .non (upd H l (.lst ((ns.erase k).map V.str)))
theorem mt_removeS : MtR X "list.remove" rRemoveS := by
  intro pins s σ H x vs v us Q I rx rv h
  obtain ⟨l, ns, k, rfl, rfl, hH, hk, q⟩ := h
  cases rx
  obtain ⟨u, rfl, ru⟩ := rv.one
  obtain ⟨t, rfl⟩ := (show ∃ t, u = Value.str k t from ru)
  obtain ⟨z, its, n, r, hl, e⟩ := I.lstM hH
  have hi : StrsAre its ns := r.strs
  have heq := eq_isStrOf k t hi
  have hnl : ns.length = its.length := by rw [← hl, List.length_map]
  obtain ⟨j, j1, j2, j3, j4⟩ := first_str hk
  have hj : j < its.length := by omega
  refine call_meets PySem.F.slot_list_remove ⟨_, e, rfl⟩ PySem.F.entry_list_remove (PySem.F.args_list_remove_2 _ _)
    (MeetsSeq.list_remove l its.toArray n (.str k t) (isStrOf k) (fun y hy => heq y (by simpa using hy)) j (by simpa using hj) (by simpa using (strOf_at k hi j hj).mpr j2) (fun i hi2 hlt => ?_) (by simpa [← hl] using z)) ⟨e, ?_⟩
  · have hi3 : i < its.length := by simpa using hi2
    show isStrOf k its[i] = false
    rw [Bool.eq_false_iff]
    exact fun w => j3 i hlt ((strOf_at k hi i hi3).mp w)
  · have r2 : Vals ((ns.erase k).map V.str) (its.eraseIdx j) := by
      have w := r.eraseIdx j
      rw [map_eraseS, j4] at w
      exact w
    refine ⟨.non, _, I.lset (its' := its.eraseIdx j) hH e ?_ r2 ?_, rfl, q⟩
    · show its.toArray.eraseIdxIfInBounds j = (its.eraseIdx j).toArray
      rw [List.eraseIdxIfInBounds_toArray]
    · have := List.length_erase_le (a := k) (l := ns)
      rw [List.length_map] at z ⊢
      omega
end
/-! ### text A3 -/
/-! ## readings, opened where they are applied -/
section
variable {K : PySem.W.Frag} {te ta tb tc tl th to td ty tv : TE} {g : TG} {t u : TS} {gs : TGs} {tt tu : TT} {tA tr : TA} {D : Ends} {σ : L2.St} {H : Hp} {i j l n : Nat} {v x y : V} {vs : List V} {r : R2} {Q : VK} {QB : Bool → Hp → Prop} {QL : List V → Hp → Prop} {QO : Option Int → Hp → Prop} {QS : L2.St → Hp → Prop} {o1 o2 : TO} {sp : Sp} {E : XK} {dvs : List V} {C : Addr} {m f : Str} {T : String} {k : Bool}
theorem u_seq : tSeq t u D σ H = t { D with nx := u D } σ H := rfl
theorem u_asg : tAsg te g D σ H = te σ H fun x H1 => g x σ H1 D.nx := rfl
theorem u_drop : tDrop te D σ H = te σ H fun _ H1 => D.nx σ H1 := rfl
theorem u_ret : tRet te D σ H = te σ H D.rt := rfl
theorem u_retN : tRetN D σ H = D.rt .non H := rfl
theorem u_if : tIfS tt t u D σ H = tt σ H fun b H1 => if b = true then t D σ H1 else u D σ H1 := rfl
theorem u_next : tNext D σ H = D.nx σ H := rfl
theorem u_never : tNever D σ H = False := rfl
theorem u_par : tPar i j tA D σ H = tA σ H fun vs H1 => ∃ v w, vs = [v, w] ∧ D.nx ((σ.set i (some v)).set j (some w)) H1 := rfl
theorem u_par3 : tPar3 i j l tA D σ H = tA σ H fun vs H1 => ∃ u v w, vs = [u, v, w] ∧ D.nx (((σ.set i (some u)).set j (some v)).set l (some w)) H1 := rfl
theorem u_sfld : sFld K ta tv f D σ H = tv σ H fun y H1 => ta σ H1 fun x H2 => ∃ a C dx fs, x = .ref a ∧ H2 a = some (.ins C dx fs) ∧ Cls K C ∧ NoAttr K C f ∧ fs.length < 1000 ∧ D.nx σ (upd H2 a (.ins C dx (putF f y fs))) := rfl
theorem u_sdput : sDPut td ty tv D σ H = tv σ H fun v H1 => td σ H1 fun x H2 => ty σ H2 fun y H3 => ∃ a H4, x = .ref a ∧ DPut H3 a y v H4 ∧ D.nx σ H4 := rfl
theorem u_gname : gName i v σ H QS = QS (σ.set i (some v)) H := rfl
theorem u_gtup : gTup K n gs v σ H QS = ∃ a xs, v = .ref a ∧ SqT K H a xs ∧ xs.length = n ∧ gs xs σ H QS := rfl
theorem u_gcons : gCons g gs vs σ H QS = ∃ v r, vs = v :: r ∧ g v σ H fun σ' H' => gs r σ' H' QS := rfl
theorem u_gnil : gNil vs σ H QS = (vs = [] ∧ QS σ H) := rfl
theorem u_gsub {ts : TSet} : gSub ta tb ts v σ H QS = ta σ H fun o H1 => tb σ H1 fun i H2 => ts o i v H2 fun H3 => QS σ H3 := rfl
theorem u_var : tVar i σ H Q = ∃ v, σ[i]? = some (some v) ∧ Q v H := rfl
theorem u_c : tC v σ H Q = Q v H := rfl
theorem u_op : tOp r ta tb σ H Q = ta σ H fun x H1 => tb σ H1 fun y H2 => r x y H2 Q := rfl
theorem u_un {ru : V → Hp → VK → Prop} : tUn ru ta σ H Q = ta σ H fun x H1 => ru x H1 Q := rfl
theorem u_cb {rc : List V → Hp → VK → Prop} : tCB rc tA σ H Q = tA σ H fun vs H1 => rc vs H1 Q := rfl
theorem u_cons : tCons ta tr σ H QL = ta σ H fun x H1 => tr σ H1 fun xs H2 => QL (x :: xs) H2 := rfl
theorem u_nil : tNil σ H QL = QL [] H := rfl
theorem u_tup : tTup tA σ H Q = tA σ H fun xs H1 => xs.length ≤ sizeLine ∧ ∀ p, H1 p = none → Q (.ref p) (upd H1 p (.tup xs)) := rfl
theorem u_lst : tLst tA σ H Q = tA σ H fun xs H1 => xs.length ≤ sizeLine ∧ ∀ p, H1 p = none → Q (.ref p) (upd H1 p (.lst xs)) := rfl
theorem u_test : tTest te σ H QB = te σ H fun x H' => ∃ k, x = .bl k ∧ QB k H' := rfl
theorem u_b : tB te σ H QB = te σ H fun x H' => ∃ k, x = .bl k ∧ QB k H' := rfl
theorem u_not : tNot tt σ H QB = tt σ H fun c H1 => QB (!c) H1 := rfl
theorem u_and : tAnd tt tu σ H QB = tt σ H fun c H1 => if c = true then tu σ H1 QB else QB false H1 := rfl
theorem u_or : tOr tt tu σ H QB = tt σ H fun c H1 => if c = true then QB true H1 else tu σ H1 QB := rfl
theorem u_andV : tAndV ta tb σ H Q = ta σ H fun x H1 => ∃ c, x = .bl c ∧ if c = true then tb σ H1 Q else Q (.bl false) H1 := rfl
theorem u_orV : tOrV ta tb σ H Q = ta σ H fun x H1 => ∃ c, x = .bl c ∧ if c = true then Q (.bl true) H1 else tb σ H1 Q := rfl
theorem u_notV : tNotV ta σ H Q = ta σ H fun x H1 => ∃ c, x = .bl c ∧ Q (.bl (!c)) H1 := rfl
theorem u_ifE : tIf tt ta tb σ H Q = tt σ H fun c H1 => if c = true then ta σ H1 Q else tb σ H1 Q := rfl
theorem u_fld : tFld K ta f σ H Q = ta σ H fun x H1 => ∃ a C dx fs v, x = .ref a ∧ H1 a = some (.ins C dx fs) ∧ Cls K C ∧ NoAttr K C f ∧ fs.lookup f = some v ∧ Q v H1 := rfl
theorem u_sl {rs : V → Option Int → Option Int → Hp → VK → Prop} : tSl rs te o1 o2 σ H Q = te σ H fun x H1 => o1 σ H1 fun l H2 => o2 σ H2 fun u H3 => rs x l u H3 Q := rfl
theorem u_part : tPart te σ H QO = te σ H fun x H1 => ∃ i, x = .int i ∧ QO (some i) H1 := rfl
theorem u_noPart : tNoPart σ H QO = QO none H := rfl
theorem u_bm {rb : V → List V → Hp → VK → Prop} : tBM K T rb to tA σ H Q = to σ H fun x H1 => tyV K T x H1 ∧ tA σ H1 fun xs H2 => rb x xs H2 Q := rfl
theorem u_bm0 {rb : V → List V → Hp → VK → Prop} : tBM0 K T rb to σ H Q = to σ H fun x H1 => tyV K T x H1 ∧ rb x [] H1 Q := rfl
theorem u_call : tCall sp dvs E tA σ H Q = tA σ H fun vs H1 => sp (vs ++ dvs) H1 Q E := rfl
theorem u_meth : tMeth C m sp dvs E ta tA σ H Q = ta σ H fun x H1 => ∃ a dx fs, x = .ref a ∧ H1 a = some (.ins C dx fs) ∧ fs.lookup m = none ∧ tA σ H1 fun vs H2 => sp (x :: (vs ++ dvs)) H2 Q E := rfl
theorem u_make : tMake C sp dvs E tA σ H Q = tA σ H fun vs H1 => ∀ x dx, H1 x = none → H1 dx = none → dx ≠ x → sp (.ref x :: (vs ++ dvs)) (upd (upd H1 dx (.own x)) x (.ins C dx [])) (fun v H2 => v = .non ∧ Q (.ref x) H2) E := rfl
theorem u_dget : tDGet td ty σ H Q = td σ H fun x H1 => ty σ H1 fun y H2 => ∃ a v, x = .ref a ∧ DGet H2 a y (some v) ∧ Q v H2 := rfl
theorem u_din : tDIn ty td σ H Q = ty σ H fun y H1 => td σ H1 fun x H2 => ∃ a o, x = .ref a ∧ DGet H2 a y o ∧ Q (.bl o.isSome) H2 := rfl
theorem u_dnotin : tDNotIn ty td σ H Q = ty σ H fun y H1 => td σ H1 fun x H2 => ∃ a o, x = .ref a ∧ DGet H2 a y o ∧ Q (.bl (!o.isSome)) H2 := rfl
theorem u_rI {Cc : Int → Int → Prop} {gg : Int → Int → V} : rI Cc gg x y H Q = ∃ i j, x = .int i ∧ y = .int j ∧ Cc i j ∧ Q (gg i j) H := rfl
theorem u_rI0 {gg : Int → Int → V} : rI0 gg x y H Q = ∃ i j, x = .int i ∧ y = .int j ∧ Q (gg i j) H := rfl
theorem u_rU {gg : Int → V} : rU gg x H Q = ∃ i, x = .int i ∧ Q (gg i) H := rfl
theorem u_ixL : rIxL K x y H Q = ∃ p xs i v, x = .ref p ∧ y = .int i ∧ SqL K H p xs ∧ atI xs i = some v ∧ Q v H := rfl
theorem u_ixT : rIxT K x y H Q = ∃ p xs i v, x = .ref p ∧ y = .int i ∧ SqT K H p xs ∧ atI xs i = some v ∧ Q v H := rfl
theorem u_ixS : rIxS x y H Q = ∃ z i c, x = .str z ∧ y = .int i ∧ z.length ≤ sizeLine ∧ atI z.cps.toList i = some c ∧ Q (.str ⟨#[c]⟩) H := rfl
theorem u_eq : rEq x y H Q = (scal x y = true ∧ Q (.bl (decide (x = y))) H) := rfl
theorem u_ne : rNe x y H Q = (scal x y = true ∧ Q (.bl (!decide (x = y))) H) := rfl
theorem u_eqD : rEqD K x y H Q = ∃ d e, Dp K H x d ∧ Dp K H y e ∧ SeqAt.shaped d = true ∧ SeqAt.shaped e = true ∧ Q (.bl (PyData.eqv d e)) H := rfl
theorem u_neD : rNeD K x y H Q = ∃ d e, Dp K H x d ∧ Dp K H y e ∧ SeqAt.shaped d = true ∧ SeqAt.shaped e = true ∧ Q (.bl (!PyData.eqv d e)) H := rfl
theorem u_in : rIn K false x y H Q = ∃ p xs, y = .ref p ∧ (SqL K H p xs ∨ SqT K H p xs) ∧ flatV x = true ∧ xs.all flatV = true ∧ Q (.bl (inV x xs)) H := rfl
theorem u_notIn : rIn K true x y H Q = ∃ p xs, y = .ref p ∧ (SqL K H p xs ∨ SqT K H p xs) ∧ flatV x = true ∧ xs.all flatV = true ∧ Q (.bl (!inV x xs)) H := rfl
theorem u_cat : rCat x y H Q = ∃ l b xs zs, x = .ref l ∧ y = .ref b ∧ H l = some (.lst xs) ∧ H b = some (.lst zs) ∧ xs.length + zs.length ≤ sizeLine ∧ ∀ p, H p = none → Q (.ref p) (upd H p (.lst (xs ++ zs))) := rfl
theorem u_catA : rCatA K x y H Q = ∃ a b xs ys, x = .ref a ∧ y = .ref b ∧ SqT K H a xs ∧ SqT K H b ys ∧ xs.length + ys.length ≤ sizeLine ∧ (xs = [] → Q (.ref b) H) ∧ (xs ≠ [] → ys = [] → Q (.ref a) H) ∧ (xs ≠ [] → ys ≠ [] → ∀ p, H p = none → Q (.ref p) (upd H p (.tup (xs ++ ys)))) := rfl
theorem u_slL {lo hi : Option Int} : rSlL K x lo hi H Q = ∃ a xs, x = .ref a ∧ SqL K H a xs ∧ ∀ p, H p = none → Q (.ref p) (upd H p (.lst (cutV xs lo hi))) := rfl
theorem u_slA {lo hi : Option Int} : rSlA K x lo hi H Q = ∃ a xs, x = .ref a ∧ SqT K H a xs ∧ (HT.sIx xs.length 0 lo = 0 ∧ HT.sIx xs.length xs.length hi = xs.length → Q (.ref a) H) ∧ (¬ (HT.sIx xs.length 0 lo = 0 ∧ HT.sIx xs.length xs.length hi = xs.length) → ∀ p, H p = none → Q (.ref p) (upd H p (.tup (cutV xs lo hi)))) := rfl
theorem u_slS {lo hi : Option Int} : rSlS x lo hi H Q = ∃ z, x = .str z ∧ z.length ≤ sizeLine ∧ Q (.str (cutS z lo hi)) H := rfl
theorem u_append : rAppend x vs H Q = ∃ l xs y, x = .ref l ∧ vs = [y] ∧ H l = some (.lst xs) ∧ xs.length < sizeLine ∧ Q .non (upd H l (.lst (xs ++ [y]))) := rfl
theorem u_extend : rExtend x vs H Q = ∃ l b xs zs, x = .ref l ∧ vs = [.ref b] ∧ H l = some (.lst xs) ∧ H b = some (.lst zs) ∧ xs.length + zs.length ≤ sizeLine ∧ Q .non (upd H l (.lst (xs ++ zs))) := rfl
theorem u_pop : rPop x vs H Q = ∃ l xs y, x = .ref l ∧ vs = [] ∧ H l = some (.lst xs) ∧ xs[xs.length - 1]? = some y ∧ Q y (upd H l (.lst xs.dropLast)) := rfl
theorem u_popAt : rPopAt x vs H Q = ∃ l xs i k y, x = .ref l ∧ vs = [.int i] ∧ H l = some (.lst xs) ∧ -(2 ^ 63) ≤ i ∧ i < 2 ^ 63 ∧ seqIndex? i xs.length = some k ∧ xs[k]? = some y ∧ Q y (upd H l (.lst (xs.eraseIdx k))) := rfl
theorem u_setL {w : V} {QH : Hp → Prop} : rSetL x y w H QH = ∃ p xs k j, x = .ref p ∧ y = .int k ∧ H p = some (.lst xs) ∧ ixN xs.length k = some j ∧ QH (upd H p (.lst (xs.set j w))) := rfl
theorem u_sum : rSum K vs H Q = ∃ (a : Addr) (ns : List Int), vs = [V.ref a] ∧ SqL K H a (ns.map V.int) ∧ Q (.int ns.sum) H := rfl
theorem u_chain {r r' : R2} : tChain r r' ta tb tc σ H Q = ta σ H fun x H1 => tb σ H1 fun y H2 => r x y H2 fun z H3 => ∃ k, z = .bl k ∧ (if k = true then tc σ H3 fun w' H4 => r' y w' H4 Q else Q (.bl false) H3) := rfl
theorem u_K {CX : CXT} {P : Program} {w : World} {mg : Str → Option Value} {base : Heap} {N : List Str} {q : Str} {sc : Scope} {f : Addr} {cd : Value} {A : Around} {outer : List Env} {s : Shared} : (cxOf CX P w K mg base N q sc f cd A outer s H E).nox.K = K := rfl
theorem u_K2 {CX : CXT} {P : Program} {w : World} {mg : Str → Option Value} {base : Heap} {N : List Str} {q : Str} {sc : Scope} {f : Addr} {cd : Value} {A : Around} {outer : List Env} {s : Shared} : (cxOf CX P w K mg base N q sc f cd A outer s H E).K = K := rfl
theorem u_ite_dec {p A B : Prop} [Decidable p] : (if decide p = true then A else B) = (if p then A else B) := by
  by_cases h : p <;> simp [h]
theorem u_ite_ndec {p A B : Prop} [Decidable p] : (if (!decide p) = true then A else B) = (if p then B else A) := by
  by_cases h : p <;> simp [h]
end
/-! ## rules made narrower -/
section
variable {X : Cx}
theorem ci_int : CallR X (.type "int") (fun xs H Q => ∃ i, xs = [V.int i] ∧ Q (.int i) H) := fun pins s σ H xs us Q I r h => call_int1 pins s σ H xs us Q I r (.inl h)
end
/-! ### text A4 -/
/-! ## loops, kept whole -/
/-- what a for asks of the walk J, behind the reading of its source -/
def LoopF (J : It) (g : TG) (tb : TS) (D : Ends) (σ : L2.St) (H : Hp) : Prop := ∃ W : Nat → Nat → L2.St → Hp → Prop, (∃ m, W 0 m σ H) ∧ ∀ i m σ H, W i m σ H →
  (J.stop i H ∧ D.nx σ H) ∨ (J.go i H ∧ ∃ N : L2.St → Hp → Prop, (∀ σ' H', N σ' H' → ∃ m', m' < m ∧ W (i + 1) m' σ' H') ∧ ∀ x H', J.yld i H x H' → g x σ H' fun σ2 H2 => tb { D with nx := N, ct := N, bk := D.nx } σ2 H2)
/-- what a comprehension asks -/
def LoopC (J : It) (g : TG) (tt : TT) (te : TE) (vs : List Nat) (σ : L2.St) (Q : VK) (H1 : Hp) : Prop := ∀ D, H1 D = none → ∃ W : Nat → Nat → Hp → Prop, (∃ m, W 0 m (upd H1 D (.lst []))) ∧ ∀ i m H, W i m H →
  (J.stop i H ∧ Q (.ref D) H) ∨ (J.go i H ∧ ∃ Nx : Hp → Prop, (∀ H', Nx H' → ∃ m', m' < m ∧ W (i + 1) m' H') ∧ ∀ x H', J.yld i H x H' → g x (wipe σ vs) H' fun σ2 H2 => wipe σ2 vs = wipe σ vs ∧ tt σ2 H2 fun b H3 =>
    if b = true then te σ2 H3 fun y H4 => ∃ acc, H4 D = some (.lst acc) ∧ acc.length < sizeLine ∧ Nx (upd H4 D (.lst (acc ++ [y]))) else Nx H3)
section
variable {K : PySem.W.Frag} {wi : TI} {g : TG} {tb : TS} {tt : TT} {te tl : TE} {tA : TA} {D : Ends} {σ : L2.St} {H : Hp} {Q : VK} {vs : List Nat} {RI : It → Hp → Prop} {v : Nat} {QB : Bool → Hp → Prop}
theorem u_for : tFor wi g tb D σ H = wi σ H fun J H1 => LoopF J g tb D σ H1 := rfl
theorem u_lc : tLc wi g tt te vs σ H Q = wi σ H fun J H1 => LoopC J g tt te vs σ Q H1 := rfl
theorem u_iList : iList K tl σ H RI = tl σ H fun x H1 => ∃ a, x = .ref a ∧ (∃ xs, SqL K H1 a xs) ∧ RI (Itl K a) H1 := rfl
theorem u_iTup : iTup K tl σ H RI = tl σ H fun x H1 => ∃ a, x = .ref a ∧ (∃ xs, SqT K H1 a xs) ∧ RI (Itt K a) H1 := rfl
theorem u_iRng1 : iRng1 tA σ H RI = tA σ H fun vs H1 => ∃ j : Int, vs = [.int j] ∧ -(2 ^ 62) ≤ j ∧ j < 2 ^ 62 ∧ RI (Itr 0 j.toNat) H1 := rfl
theorem u_iRng2 : iRng2 tA σ H RI = tA σ H fun vs H1 => ∃ i j : Int, vs = [.int i, .int j] ∧ (-(2 ^ 62) ≤ i ∧ i < 2 ^ 62 ∧ -(2 ^ 62) ≤ j ∧ j < 2 ^ 62) ∧ RI (Itr i (j - i).toNat) H1 := rfl
theorem u_iZip : iZip K tA σ H RI = tA σ H fun vs H1 => ∃ a b xs ys, vs = [.ref a, .ref b] ∧ SqL K H1 a xs ∧ SqL K H1 b ys ∧ RI (Itz K a b) H1 := rfl
theorem u_yes : tYes σ H QB = QB true H := rfl
theorem u_wipe0 : wipe σ [] = σ := rfl
theorem u_wipe1 : wipe σ (v :: vs) = (wipe σ vs).set v none := rfl
variable {J : It} {n : Nat} {G : Hp → Prop} {Y : Nat → Hp → V → Hp → Prop}
theorem loop_f (w : Walk J n G Y) (Pv : Nat → L2.St → Hp → Prop) (h0 : Pv 0 σ H) (hG : ∀ i σ H, i ≤ n → Pv i σ H → G H)
    (hs : ∀ i x σ H H', i < n → Pv i σ H → Y i H x H' → ∀ N : L2.St → Hp → Prop, (∀ σ' H', Pv (i + 1) σ' H' → N σ' H') → g x σ H' fun σ2 H2 => tb { D with nx := N, ct := N, bk := D.nx } σ2 H2) (hd : ∀ σ H, Pv n σ H → D.nx σ H) : LoopF J g tb D σ H :=
  for_it w Pv h0 hG (fun i x σ H H' hi hp hy => hs i x σ H H' hi hp hy _ fun _ _ z => z) hd
/-- one turn of a comprehension, the list so far at Dl -/
def TurnC (g : TG) (tt : TT) (te : TE) (vs : List Nat) (σ : L2.St) (Dl : Addr) (x : V) (H' : Hp) (N : Hp → Prop) : Prop := g x (wipe σ vs) H' fun σ2 H2 => wipe σ2 vs = wipe σ vs ∧ tt σ2 H2 fun b H3 =>
  if b = true then te σ2 H3 fun y H4 => ∃ acc, H4 Dl = some (.lst acc) ∧ acc.length < sizeLine ∧ N (upd H4 Dl (.lst (acc ++ [y]))) else N H3
theorem loop_c (w : Walk J n G Y) (h : ∀ Dl, H Dl = none → ∃ Pv : Nat → Hp → Prop, Pv 0 (upd H Dl (.lst [])) ∧ (∀ i H, i ≤ n → Pv i H → G H) ∧
    (∀ i x H H', i < n → Pv i H → Y i H x H' → ∀ N : Hp → Prop, (∀ H', Pv (i + 1) H' → N H') → TurnC g tt te vs σ Dl x H' N) ∧ ∀ H, Pv n H → Q (.ref Dl) H) : LoopC J g tt te vs σ Q H := by
  intro Dl hD
  obtain ⟨Pv, h0, hG, hs, hd⟩ := h Dl hD
  exact lc_it w Pv h0 hG (fun i x H H' hi hp hy => hs i x H H' hi hp hy _ fun _ z => z) hd
theorem u_turnC {Dl : Addr} {x : V} {N : Hp → Prop} : TurnC g tt te vs σ Dl x H N = g x (wipe σ vs) H fun σ2 H2 => wipe σ2 vs = wipe σ vs ∧ tt σ2 H2 fun b H3 =>
  if b = true then te σ2 H3 fun y H4 => ∃ acc, H4 Dl = some (.lst acc) ∧ acc.length < sizeLine ∧ N (upd H4 Dl (.lst (acc ++ [y]))) else N H3 := rfl
/-- one turn of a while -/
def StepW (W : Nat → L2.St → Hp → Prop) (m : Nat) (tb : TS) (D : Ends) (σ : L2.St) (H : Hp) : Prop := ∃ N : L2.St → Hp → Prop, (∀ σ' H', N σ' H' → ∃ m', m' < m ∧ W m' σ' H') ∧ tb { D with nx := N, ct := N, bk := D.nx } σ H
theorem stepW {W : Nat → L2.St → Hp → Prop} {m : Nat} (h : ∀ N : L2.St → Hp → Prop, (∀ m' σ' H', m' < m → W m' σ' H' → N σ' H') → tb { D with nx := N, ct := N, bk := D.nx } σ H) : StepW W m tb D σ H :=
  ⟨fun σ' H' => ∃ m', m' < m ∧ W m' σ' H', fun _ _ z => z, h _ fun m' σ' H' l w => ⟨m', l, w⟩⟩
/-- a while by what holds and what falls -/
theorem loop_w {tc : TT} (W : Nat → L2.St → Hp → Prop) (m0 : Nat) (h0 : W m0 σ H)
    (hs : ∀ m σ H, W m σ H → tc σ H fun b H1 => if b = true then StepW W m tb D σ H1 else D.nx σ H1) : tWhile tc tb D σ H :=
  ⟨W, ⟨m0, h0⟩, hs⟩
end
/-! ## the law's stock of numbers -/
/-- the stock stands at S: what is left of the great cells at G, the cells at F; fr: what else may change -/
def Sk (D : Hp) (S : Addr) (fr : List (Addr × HO)) (H : Hp) : Prop := ∃ (G F : Addr) (gs fs : List Int) (sm ct : Int),
  Hs D (fr ++ [(S, .lst [.ref G, .ref F, .int sm, .int ct]), (G, .lst (gs.map V.int))]) H ∧ D F = some (.lst (fs.map V.int)) ∧ fs ≠ [] ∧ gs.length ≤ 63 ∧ ∀ g ∈ gs, 0 ≤ g
/-- o stands at p: for good, or among what may change -/
def In (D : Hp) (fr : List (Addr × HO)) (p : Addr) (o : HO) : Prop := D p = some o ∨ (p, o) ∈ fr
section
variable {D H : Hp} {S : Addr} {fr : List (Addr × HO)} {a p : Addr} {o : HO}
theorem Sk.same (h : Sk D S fr H) : Same D H := by
  obtain ⟨G, F, gs, fs, sm, ct, h, _⟩ := h
  exact h.same
theorem Sk.get (h : Sk D S fr H) (i : Nat) (e : fr[i]? = some (a, o)) : H a = some o := by
  obtain ⟨G, F, gs, fs, sm, ct, h, _⟩ := h
  exact h.at_ (q := (a, o)) (List.mem_append_left _ (List.mem_of_getElem? e))
theorem Sk.in_ (h : Sk D S fr H) (m : In D fr a o) : H a = some o := by
  rcases m with m | m
  · exact h.same _ _ m
  · obtain ⟨G, F, gs, fs, sm, ct, h, _⟩ := h
    exact h.at_ (q := (a, o)) (List.mem_append_left _ m)
theorem Sk.new (h : Sk D S fr H) (hp : H p = none) (o : HO) : Sk (upd D p o) S fr (upd H p o) ∧ Same D (upd D p o) := by
  obtain ⟨G, F, gs, fs, sm, ct, h, hF, r⟩ := h
  obtain ⟨h1, h2⟩ := h.new hp o
  exact ⟨⟨G, F, gs, fs, sm, ct, h1, h2 _ _ hF, r⟩, h2⟩
theorem Sk.tmp (h : Sk D S fr H) (hp : H p = none) (o : HO) : Sk D S fr (upd H p o) := by
  obtain ⟨G, F, gs, fs, sm, ct, h, r⟩ := h
  exact ⟨G, F, gs, fs, sm, ct, h.tmp hp o, r⟩
theorem Sk.put (h : Sk D S fr H) (hp : H p = none) (o : HO) : Sk D S ((p, o) :: fr) (upd H p o) := by
  obtain ⟨G, F, gs, fs, sm, ct, h, r⟩ := h
  exact ⟨G, F, gs, fs, sm, ct, h.put hp o, r⟩
theorem Sk.upd (h : Sk D S fr H) (i : Nat) (e : fr[i]? = some (a, o)) (o' : HO) : Sk D S (fr.set i (a, o')) (L2.upd H a o') := by
  obtain ⟨G, F, gs, fs, sm, ct, h, r⟩ := h
  have hi := (List.getElem?_eq_some_iff.mp e).1
  have h1 := h.upd i (a := a) (o := o) (by rw [List.getElem?_append_left hi]; exact e) o'
  rw [List.set_append_left _ _ hi] at h1
  exact ⟨G, F, gs, fs, sm, ct, h1, r⟩
theorem Sk.sub {fr' : List (Addr × HO)} (h : Sk D S fr H) (s : fr'.Sublist fr) : Sk D S fr' H := by
  obtain ⟨G, F, gs, fs, sm, ct, h, r⟩ := h
  exact ⟨G, F, gs, fs, sm, ct, h.sub (s.append (List.Sublist.refl _)), r⟩
theorem Sk.drop (h : Sk D S fr H) (i : Nat) : Sk D S (fr.eraseIdx i) H := h.sub (List.eraseIdx_sublist _ _)
theorem Sk.perm {fr' : List (Addr × HO)} (h : Sk D S fr H) (s : fr'.Perm fr) : Sk D S fr' H := by
  obtain ⟨G, F, gs, fs, sm, ct, h, r⟩ := h
  exact ⟨G, F, gs, fs, sm, ct, h.perm (s.append (List.Perm.refl _)), r⟩
theorem Sk.fix (h : Sk D S ((a, o) :: fr) H) : Sk (L2.upd D a o) S fr H ∧ Same D (L2.upd D a o) := by
  obtain ⟨G, F, gs, fs, sm, ct, h, hF, r⟩ := h
  obtain ⟨h1, h2⟩ := Hs.fix (ms := fr ++ _) h
  exact ⟨⟨G, F, gs, fs, sm, ct, h1, h2 _ _ hF, r⟩, h2⟩
theorem In.up {D' : Hp} (s : Same D D') (m : In D fr p o) : In D' fr p o := m.imp (s _ _) id
theorem In.more {q : Addr × HO} (m : In D fr p o) : In D (q :: fr) p o := m.imp id (List.mem_cons_of_mem _)
end
/-! ## lists of ints as data -/
theorem dp_ints {K : PySem.W.Frag} {H : Hp} : ∀ ns : List Int, DpAll K H (ns.map V.int) (ns.map PyData.int)
  | [] => .nil
  | n :: ns => .cons (.int n) (dp_ints ns)
theorem canLay_ints : ∀ ns : List Int, PyData.canLayAll0 (ns.map PyData.int) = true
  | [] => by simp [PyData.canLayAll0]
  | n :: ns => by simp [PyData.canLayAll0, PyData.canLay0, canLay_ints ns]
theorem depth_ints : ∀ ns : List Int, PyData.depthAll (ns.map PyData.int) ≤ 1
  | [] => by simp [PyData.depthAll]
  | n :: ns => by
    have := depth_ints ns
    simp only [List.map_cons, PyData.depthAll, PyData.depth]
    omega
theorem ints_shaped (ns : List Int) : SeqAt.shaped (.list (ns.map PyData.int)) = true := by
  have h := depth_ints ns
  unfold SeqAt.shaped
  rw [Bool.and_eq_true]
  exact ⟨by simp only [PyData.canLay0]; exact canLay_ints ns, decide_eq_true (by simp only [PyData.depth]; omega)⟩
theorem if_eq {b : Bool} {A B : Prop} (h : b = true) (a : A) : if b = true then A else B := by rw [if_pos h]; exact a
theorem if_ne {b : Bool} {A B : Prop} (h : b = false) (a : B) : if b = true then A else B := by rw [h, if_neg Bool.false_ne_true]; exact a
theorem fmod_rng (x : Int) {n : Int} (h : 0 < n) : 0 ≤ x.fmod n ∧ x.fmod n < n :=
  ⟨Int.fmod_nonneg_of_pos x h, Int.fmod_lt_of_pos x h⟩
/-! ### text A5 -/
/-! ## the ground a def stands on: what never changes, what may change one by one, and what nobody names -/
structure Ground (I : Hp → List (Addr × HO) → Hp → Prop) : Prop where
  same : ∀ {D fr H}, I D fr H → Same D H
  get : ∀ {D fr H} (i : Nat) {a : Addr} {o : HO}, I D fr H → fr[i]? = some (a, o) → H a = some o
  new : ∀ {D fr H} {p : Addr} (o : HO), I D fr H → H p = none → I (upd D p o) fr (upd H p o) ∧ Same D (upd D p o)
  tmp : ∀ {D fr H} {p : Addr} (o : HO), I D fr H → H p = none → I D fr (upd H p o)
  put : ∀ {D fr H} {p : Addr} (o : HO), I D fr H → H p = none → I D ((p, o) :: fr) (upd H p o)
  upd : ∀ {D fr H} (i : Nat) {a : Addr} {o : HO} (o' : HO), I D fr H → fr[i]? = some (a, o) → I D (fr.set i (a, o')) (upd H a o')
  sub : ∀ {D fr fr' H}, I D fr H → List.Sublist fr' fr → I D fr' H
  perm : ∀ {D fr fr' H}, I D fr H → List.Perm fr' fr → I D fr' H
  fix : ∀ {D fr H} {a : Addr} {o : HO}, I D ((a, o) :: fr) H → I (L2.upd D a o) fr H ∧ Same D (L2.upd D a o)
theorem ground_Hs : Ground Hs := ⟨fun h => h.same, fun i _ _ h e => h.get i e, fun o h hp => h.new hp o, fun o h hp => h.tmp hp o, fun o h hp => h.put hp o, fun i _ _ o' h e => h.upd i e o', fun h s => h.sub s, fun h s => h.perm s, fun h => h.fix⟩
theorem ground_Sk {S : Addr} : Ground (fun D fr H => Sk D S fr H) := ⟨fun h => h.same, fun i _ _ h e => h.get i e, fun o h hp => h.new hp o, fun o h hp => h.tmp hp o, fun o h hp => h.put hp o, fun i _ _ o' h e => h.upd i e o', fun h s => h.sub s, fun h s => h.perm s, fun h => h.fix⟩
section
variable {I : Hp → List (Addr × HO) → Hp → Prop} {D H : Hp} {fr : List (Addr × HO)} {p : Addr} {o : HO}
/-- the ground with part of what may change put out of sight -/
theorem Ground.behind (g : Ground I) (ms : List (Addr × HO)) : Ground (fun D fr H => I D (fr ++ ms) H) where
  same := g.same
  get i _ _ h e := g.get i h (by rw [List.getElem?_append_left (List.getElem?_eq_some_iff.mp e).1]; exact e)
  new := g.new
  tmp := g.tmp
  put := g.put
  upd i a o o' h e := by
    have hi := (List.getElem?_eq_some_iff.mp e).1
    have h1 := g.upd i o' h (by rw [List.getElem?_append_left hi]; exact e)
    rw [List.set_append_left _ _ hi] at h1
    exact h1
  sub h s := g.sub h (s.append (List.Sublist.refl _))
  perm h s := g.perm h (s.append (List.Perm.refl _))
  fix h := g.fix h
theorem Ground.drop (g : Ground I) (h : I D fr H) (i : Nat) : I D (fr.eraseIdx i) H := g.sub h (List.eraseIdx_sublist _ _)
theorem Ground.in_ (g : Ground I) (h : I D fr H) (m : In D fr p o) : H p = some o := by
  rcases m with m | m
  · exact g.same h _ _ m
  · obtain ⟨i, hi⟩ := List.mem_iff_getElem?.mp m
    exact g.get i h hi
theorem same_rfl {D : Hp} : Same D D := fun _ _ e => e
theorem same_tr {D D' D'' : Hp} (a : Same D D') (b : Same D' D'') : Same D D'' := fun p u e => b p u (a p u e)
variable {g : TG} {tt : TT} {te : TE} {vs : List Nat} {σ : L2.St} {J : It} {n : Nat} {G : Hp → Prop} {Y : Nat → Hp → V → Hp → Prop} {Q : VK}
/-- one turn of a comprehension: the value is taken (Ny) or passed by (Nn) -/
def TurnV (g : TG) (tt : TT) (te : TE) (vs : List Nat) (σ : L2.St) (x : V) (H : Hp) (Ny : VK) (Nn : Hp → Prop) : Prop := g x (wipe σ vs) H fun σ2 H2 => wipe σ2 vs = wipe σ vs ∧ tt σ2 H2 fun b H3 => if b = true then te σ2 H3 Ny else Nn H3
theorem u_turnV {x : V} {Ny : VK} {Nn : Hp → Prop} : TurnV g tt te vs σ x H Ny Nn = g x (wipe σ vs) H fun σ2 H2 => wipe σ2 vs = wipe σ vs ∧ tt σ2 H2 fun b H3 => if b = true then te σ2 H3 Ny else Nn H3 := rfl
/-- a comprehension on a ground: O i, what may have come together when i are seen -/
theorem gath (gI : Ground I) (w : Walk J n G Y) (h : I D fr H) (hn : n < 100000) (O : Nat → List PyData → Prop) (h0 : O 0 []) (hl : ∀ i ds, i ≤ n → O i ds → ds.length ≤ i)
    (hG : ∀ D' H' q, Same D D' → I D' (q :: fr) H' → G H')
    (hs : ∀ i x D' q H1 H2 ds, i < n → O i ds → Same D D' → I D' (q :: fr) H1 → Y i H1 x H2 → ∀ (Ny : VK) (Nn : Hp → Prop),
      (∀ D'' H3 y d, Same D' D'' → I D'' (q :: fr) H3 → At D'' y d → O (i + 1) (ds ++ [d]) → Ny y H3) → (∀ D'' H3, Same D' D'' → I D'' (q :: fr) H3 → O (i + 1) ds → Nn H3) → TurnV g tt te vs σ x H2 Ny Nn)
    (hd : ∀ D' H' q ws ds, Same D D' → I D' ((q, .lst ws) :: fr) H' → AtL D' ws ds → O n ds → Q (.ref q) H') : LoopC J g tt te vs σ Q H := by
  refine loop_c w fun Dl hD => ⟨fun i H' => ∃ D' acc ds, Same D D' ∧ I D' ((Dl, .lst acc) :: fr) H' ∧ AtL D' acc ds ∧ O i ds, ⟨D, [], [], fun _ _ e => e, gI.put _ h hD, .nil, h0⟩, ?_, ?_, ?_⟩
  · rintro i H' _ ⟨D', acc, ds, s, hI, _, _⟩
    exact hG D' H' _ s hI
  · rintro i x H1 H2 hi ⟨D', acc, ds, s, hI, ha, ho⟩ hy N hN
    have hlen : acc.length < sizeLine := szl (by have := ha.len; have := hl i ds (by omega) ho; omega)
    have key := hs i x D' (Dl, .lst acc) H1 H2 ds hi ho s hI hy (fun y H4 => ∃ acc, H4 Dl = some (.lst acc) ∧ acc.length < sizeLine ∧ N (upd H4 Dl (.lst (acc ++ [y])))) N ?_ ?_
    · exact key
    · intro D'' H3 y d s2 h3 hy2 ho2
      refine ⟨acc, gI.get 0 h3 rfl, hlen, hN _ ⟨D'', acc ++ [y], ds ++ [d], same_tr s s2, gI.upd 0 _ h3 rfl, (ha.up s2).snoc hy2, ho2⟩⟩
    · intro D'' H3 s2 h3 ho2
      exact hN _ ⟨D'', acc, ds, same_tr s s2, h3, ha.up s2, ho2⟩
  · rintro H' ⟨D', acc, ds, s, hI, ha, ho⟩
    exact hd _ _ _ _ _ s hI ha ho
end
/-! ### text A6 -/
/-! ## enumerate of a tuple; zip of a list and a tuple -/
theorem enum_makes {w0 : Value} {ob : Obj} {Hh : Heap → Prop} (B : Begins w0 ob Hh) :
    Meets (Builtin.«enumerate.__new__» ⟨[.type "enumerate", w0], []⟩) (fun _ R sh => Hh sh.heap ∧
      R (.ok (.ret (.ref (sh.heap.push ob).objs.size))) { sh with heap := (sh.heap.push ob).push { cls := .type "enumerate", data := .fields #[.none, .bool false, .ref sh.heap.objs.size, rawInt 0, .none, .none] } }) :=
  .of_wp fun pr w A R sh hh => by
    obtain ⟨hp, gn, dr, tk, os⟩ := sh
    obtain ⟨hb, hh⟩ := hh
    have es := sub_enumerate
    have q0 : ∀ {A' : Around} {E0 : Value → Shared → Prop} {Q0 : Value → Shared → Prop}, Q0 (.ref hp.objs.size) ⟨hp.push ob, gn, dr, tk, os⟩ → wpAny (model pr w) A' (pyIter w0) Q0 E0 ⟨hp, gn, dr, tk, os⟩ :=
      fun q => B.iter pr w _ _ ⟨hp, gn, dr, tk, os⟩ _ hb q
    wp_walk using q0
    refine wpAny_stack_any fun _ => wpAny_pure ?_
    split
    · rename_i cc _ _ _ _ _
      cases (cc == Value.type "enumerate")
      · wp_walk using q0
        exact ⟨_, rfl, hh⟩
      · wp_walk using q0
        exact ⟨_, rfl, hh⟩
    · wp_walk using q0
      exact ⟨_, rfl, hh⟩
section
variable {pr : Program} {w : World} {A : Around} {E0 : Value → Shared → Prop} {sh : Shared}
theorem enum_one {w0 : Value} {ob : Obj} {Hh : Heap → Prop} {Q0 : Value → Shared → Prop} (B : Begins w0 ob Hh) (hb : Hh sh.heap)
    (hh : ∀ h', IsEnum h' (sh.heap.objs.size + 1) sh.heap.objs.size 0 .none → h'.get? sh.heap.objs.size = some ob → h'.objs.size = sh.heap.objs.size + 2 →
      (∀ c u, sh.heap.get? c = some u → h'.get? c = some u) → Q0 (.ref (sh.heap.objs.size + 1)) { sh with heap := h' }) :
    wpAny (model pr w) A (call (.type "enumerate") [w0]) Q0 E0 sh := by
  refine callType_new F.called_enumerate (by decide) (F.typeCall_enumerate_1 _) (F.newCall_enumerate_1 _) (fun obj => F.args_object_init_2 obj _) F.entry_enumerate_new (enum_makes B) ⟨hb, ?_⟩
  have z0 : (sh.heap.push ob).objs.size = sh.heap.objs.size + 1 := Heap.size_push ..
  show _ ∧ _
  rw [z0]
  have g0 : IsEnum ((sh.heap.push ob).push { cls := .type "enumerate", data := .fields #[.none, .bool false, .ref sh.heap.objs.size, rawInt 0, .none, .none] }) (sh.heap.objs.size + 1) sh.heap.objs.size 0 .none := by
    have g1 := Heap.get?_push_size (sh.heap.push ob) (o := { cls := .type "enumerate", data := .fields #[.none, .bool false, .ref sh.heap.objs.size, rawInt 0, .none, .none] }) rfl
    rw [z0] at g1
    exact g1
  exact ⟨⟨_, g0, rfl⟩, hh _ g0 (Heap.get?_push_of_some _ (Heap.get?_push_size _ B.free)) (by rw [Heap.size_push, z0]) fun c u x => Heap.get?_push_of_some _ (Heap.get?_push_of_some _ x)⟩
end
/-- the tuple at a, each item in a new pair with its place -/
def IteT (K : PySem.W.Frag) (a : Addr) : It :=
  ⟨fun i H => ∃ (xs : List V) (x : V), SqT K H a xs ∧ xs[i]? = some x, fun i H v H' => ∃ T x, v = .ref T ∧ H T = none ∧ H' = upd H T (.tup [.int (i : Nat), x]) ∧ ∀ xs, SqT K H a xs → xs[i]? = some x, fun i H => ∃ xs : List V, SqT K H a xs ∧ xs.length = i⟩
theorem turn_enumT {P : Program} {w : World} {K : PySem.W.Frag} {elts : List Expr} {kk : Nat} {tpos : Pos} (a e it : Addr) :
    Turn P w K (.Tuple elts kk tpos) (IteT K a) [e, it] e (fun i h => (∃ old, IsEnum h e it ((i : Nat) : Int) old) ∧ h.IsTupleIter it a i ∧ e ≠ it) where
  mem := by simp
  obj := fun i h st b hb => by
    obtain ⟨⟨old, he⟩, ⟨o, ho, hc, hd⟩, _⟩ := st
    rcases (show b = e ∨ b = it by simpa using hb) with rfl | rfl
    · exact ⟨_, he, fun v q => nomatch q⟩
    · exact ⟨o, ho, fun v q => by rw [hd] at q; cases q⟩
  keep := fun i h h' st k => by
    obtain ⟨⟨old, he⟩, hi, ne0⟩ := st
    exact ⟨⟨old, k e (by simp) _ he⟩, hi.at fun o q => k it (by simp) o q, ne0⟩
  item := by
    intro X hP hw hK hc i pins s σ H E I hf st hg
    subst hP hw hK
    obtain ⟨⟨old, he⟩, hit, ne0⟩ := st
    obtain ⟨xs, x, hq, hx⟩ := hg
    obtain ⟨its, rv, tp, _⟩ := I.tuple hq
    obtain ⟨u, hu, ru⟩ := rv.get hx
    have eL : e < s.heap.objs.size := Heap.lt_size he
    have iL : it < s.heap.objs.size := by
      obtain ⟨_, q, _⟩ := hit
      exact Heap.lt_size q
    have hne : e ≠ a := fun z => by
      obtain ⟨o, ho, hcl, _⟩ := tp
      rw [← z] at ho
      have z2 := he.symm.trans ho
      cases z2
      simp at hcl
    have hna : a ≠ it := fun z => by
      obtain ⟨o, ho, hcl, _⟩ := tp
      obtain ⟨o2, ho2, hcl2, _⟩ := hit
      rw [z, ho2] at ho
      cases ho
      rw [hcl2] at hcl
      simp at hcl
    have D := Draws.tuple (prog := X.prog) (w := X.w) (A := X.A.in1) (I.ok.hd hc) it a hna its.toArray
    have il : i < its.toArray.size := by
      rw [List.size_toArray]
      exact (List.getElem?_eq_some_iff.mp hu).1
    refine wpAny_pyNext_enum_itemD D he ⟨hit, tp⟩ il ne0 (by simp [ne0, hne]) fun y h' tk py ho st' hT hsz hk => ?_
    have ey : y = u := by
      have z : its.toArray[i]? = some u := by simpa using hu
      rw [z] at py
      exact (Option.some.inj py).symm
    subst ey
    refine ⟨_, rfl, wpAny_letOwnedTupleGo_enum (s := { s with heap := h', toks := tk + 1 }) ho fun h'' he' sb => ?_⟩
    have hT2 : h''.get? s.heap.objs.size = some { cls := .type "tuple", data := .seq #[.int i tk, y] } := (sb.2 _ (Nat.ne_of_gt eL)).trans hT
    have nw : ObjOk X.prog X.w (upd H s.heap.objs.size (.tup [.int (i : Nat), x])) h'' s.heap.objs.size (.tup [.int (i : Nat), x]) :=
      ⟨by show 2 ≤ sizeLine; decide, [.int i tk, y], .cons ⟨_, rfl⟩ (.cons ru .nil), ⟨_, hT2, rfl, _, rfl⟩⟩
    have J : Inv X pins σ (upd H s.heap.objs.size (.tup [.int (i : Nat), x])) { s with heap := h'', toks := tk + 1 } :=
      I.turnedNew (ch := [e, it]) (fun b ob hb q => (sb.2 b fun z => hb (by simp [z])).trans (hk b ob (fun z => hb (by simp [z])) (fun z => hb (by simp [z])) q)) hf (Nat.le_refl _) nw
    refine ⟨.ref s.heap.objs.size, _, J, rfl, ⟨_, x, rfl, I.hok.fresh (Nat.le_refl _), rfl, fun ys hy => by rw [I.tuple_inj hy hq]; exact hx⟩, ⟨⟨y, ?_⟩, st'.1.at fun o q => (sb.2 it (Ne.symm ne0)).trans q, ne0⟩, fun b hb => ?_⟩
    · rw [show ((i + 1 : Nat) : Int) = (i : Int) + 1 by omega]
      exact he'
    · have lb : b < s.heap.objs.size := by
        rcases (show b = e ∨ b = it by simpa using hb) with z | z
        · rw [z]; exact eL
        · rw [z]; exact iL
      rw [upd_ne (Nat.ne_of_lt lb)]
      exact (hf b hb).1
  done := by
    intro X hP hw hK hc i pins s σ H E I hf st hg
    subst hP hw hK
    obtain ⟨⟨old, he⟩, hit, ne0⟩ := st
    obtain ⟨xs, hq, hx⟩ := hg
    obtain ⟨its, rv, tp, _⟩ := I.tuple hq
    obtain ⟨f0, f1, f2, f3, f4, f5⟩ := hf it (by simp)
    have hna : a ≠ it := fun z => by
      obtain ⟨o, ho, hcl, _⟩ := tp
      obtain ⟨o2, ho2, hcl2, _⟩ := hit
      rw [z, ho2] at ho
      cases ho
      rw [hcl2] at hcl
      simp at hcl
    have D := Draws.tuple (prog := X.prog) (w := X.w) (A := X.A.in1) (I.ok.hd hc) it a hna its.toArray
    have el : its.toArray.size = i := by
      rw [List.size_toArray, ← rv.length]
      exact hx
    rw [← el] at hit
    exact wpAny_pyNext_enum_endD D he ⟨hit, tp⟩ fun h' eb => ⟨rfl, I.turned (t' := s.toks) (fun b o hb q => eb b o hb q) f0 f1 f3 f4 f5⟩
  self := fun A i s Q E st h => wpAny_pyIter_enum st.1.choose_spec h
def iEnumT (K : PySem.W.Frag) (ta : TA) : L2.TI := fun σ H R => ta σ H fun vs H1 => ∃ a xs, vs = [.ref a] ∧ SqT K H1 a xs ∧ R (IteT K a) H1
theorem pi_enumT {X : Cx} {e : Expr} {ta : TA} {p pos tpos : Pos} {elts : List Expr} {kk : Nat} (hg : Gl X "enumerate") (hm : X.mg "enumerate" = none) (ha : PA X [e] ta) (hs : starEach [e] X.env = [(false, eval e X.env)] := by rfl) :
    PI X (.Tuple elts kk tpos) (.Call (.Name "enumerate" p) [e] [] pos) (iEnumT X.K ta) := by
  constructor
  intro pins s σ H R I h
  refine Call_ (ld_blt I hg hm boot_enumerate (PyProof.Rows.callWith_type1 (thn (ha.run pos pins s σ H _ I h) fun us s1 ⟨vs, H1, I1, r1, q1⟩ => ?_) hs rfl))
  obtain ⟨a, xs, ex, hq, q⟩ := q1
  subst ex
  rw [Vals.ref1 r1]
  obtain ⟨its, rv, tp, _⟩ := I1.tuple hq
  refine enum_one (begins_tuple a its.toArray) tp fun h' he hit hsz hk => wpAny_pyIter_enum he ?_
  have J : Inv X pins σ H1 { s1 with heap := h' } := I1.kept (t' := s1.toks) hk
  refine ⟨s1.heap.objs.size + 1, [s1.heap.objs.size + 1, s1.heap.objs.size], _, _, H1, rfl, J, turn_enumT a (s1.heap.objs.size + 1) s1.heap.objs.size, ⟨⟨.none, he⟩, ⟨_, hit, rfl, rfl⟩, Nat.succ_ne_self _⟩, fun b hb => ?_, q⟩
  have lb : s1.heap.objs.size ≤ b := by
    rcases (show b = s1.heap.objs.size + 1 ∨ b = s1.heap.objs.size by simpa using hb) with z | z
    · rw [z]; exact Nat.le_add_right _ _
    · rw [z]; exact Nat.le_refl _
  exact I1.fpOk lb (I1.hok.fresh lb)
theorem walk_enumT {K : PySem.W.Frag} {a : Addr} {xs : List V} : Walk (IteT K a) xs.length (fun H => SqT K H a xs) (YPair (fun i => some (.int (i : Nat))) (fun i => xs[i]?)) := by
  refine ⟨fun i _ hi q => ⟨xs, xs[i], q, by simp [hi]⟩, fun _ q => ⟨xs, q, rfl⟩, fun i H v H' _ q y => ?_⟩
  obtain ⟨T, x, h1, h2, h3, h4⟩ := y
  exact ⟨T, .int (i : Nat), x, h1, h2, h3, rfl, h4 xs q⟩
/-! ### text A7 -/
/-! ## zip of a list and a tuple -/
def IzLT (K : PySem.W.Frag) (a b : Addr) : It :=
  ⟨fun i H => ∃ (xs ys : List V) (x y : V), SqL K H a xs ∧ SqT K H b ys ∧ xs[i]? = some x ∧ ys[i]? = some y,
    fun i H v H' => ∃ T x y, v = .ref T ∧ H T = none ∧ H' = upd H T (.tup [x, y]) ∧ (∀ xs, SqL K H a xs → xs[i]? = some x) ∧ ∀ ys, SqT K H b ys → ys[i]? = some y,
    fun i H => ∃ xs ys : List V, SqL K H a xs ∧ SqT K H b ys ∧ i ≤ xs.length ∧ i ≤ ys.length ∧ (i = xs.length ∨ i = ys.length)⟩
theorem turn_zipLT {P : Program} {w : World} {K : PySem.W.Frag} {elts : List Expr} {kk : Nat} {tpos : Pos} {a b z TI TO i1 i2 : Addr} (S : ZipSep2 z TI TO i1 i2 [i1, a] [i2, b]) (nj1 : a ≠ i1) (nj2 : b ≠ i2) :
    Turn P w K (.Tuple elts kk tpos) (IzLT K a b) [z, TI, TO, i1, i2] z (fun i h => IsZip h z TI TO .none ∧ IsTupOf2 h TI (.ref i1) (.ref i2) ∧ (∃ x y, IsTupOf2 h TO x y) ∧ h.IsListIter i1 a i ∧ h.IsTupleIter i2 b i) where
  mem := by simp
  obj := fun i h st c hc => by
    obtain ⟨hz, hTI, ⟨x, y, hTO⟩, ⟨o1, e1, _, d1⟩, ⟨o2, e2, _, d2⟩⟩ := st
    rcases (show c = z ∨ c = TI ∨ c = TO ∨ c = i1 ∨ c = i2 by simpa using hc) with rfl | rfl | rfl | rfl | rfl
    · exact ⟨_, hz, fun v q => nomatch q⟩
    · exact ⟨_, hTI, fun v q => nomatch q⟩
    · exact ⟨_, hTO, fun v q => nomatch q⟩
    · exact ⟨o1, e1, fun v q => by rw [d1] at q; cases q⟩
    · exact ⟨o2, e2, fun v q => by rw [d2] at q; cases q⟩
  keep := fun i h h' st k => by
    obtain ⟨hz, hTI, ⟨x, y, hTO⟩, j1, j2⟩ := st
    exact ⟨k z (by simp) _ hz, k TI (by simp) _ hTI, ⟨x, y, k TO (by simp) _ hTO⟩, j1.at fun o q => k i1 (by simp) o q, j2.at fun o q => k i2 (by simp) o q⟩
  item := by
    intro X hP hw hK hc i pins s σ H E I hf st hg
    subst hP hw hK
    obtain ⟨hz, hTI, ⟨x0, y0, hTO⟩, j1, j2⟩ := st
    obtain ⟨xs, ys, x, y, qx, qy, hx, hy⟩ := hg
    obtain ⟨its, rv, lp, _⟩ := I.list qx
    obtain ⟨its2, rv2, tp, _⟩ := I.tuple qy
    obtain ⟨u, hu, ru⟩ := rv.get hx
    obtain ⟨u2, hu2, ru2⟩ := rv2.get hy
    have zL : z < s.heap.objs.size := Heap.lt_size hz
    have D1 := Draws.list (prog := X.prog) (w := X.w) (A := X.A.in1) (I.ok.hd hc) i1 a nj1 its.toArray
    have D2 := Draws.tuple (prog := X.prog) (w := X.w) (A := X.A.in1) (I.ok.hd hc) i2 b nj2 its2.toArray
    refine wpAny_pyNext_zipD2_item S D1 D2 hz hTI hTO ⟨j1, lp.isList⟩ ⟨j2, tp⟩ (by rw [List.size_toArray]; exact (List.getElem?_eq_some_iff.mp hu).1) (by rw [List.size_toArray]; exact (List.getElem?_eq_some_iff.mp hu2).1)
      fun v1 v2 h' tk p1 p2 z' TO' k1 k2 hT hsz hk => ?_
    have e1 : v1 = u := by
      have q : its.toArray[i]? = some u := by simpa using hu
      rw [q] at p1
      exact (Option.some.inj p1).symm
    have e2 : v2 = u2 := by
      have q : its2.toArray[i]? = some u2 := by simpa using hu2
      rw [q] at p2
      exact (Option.some.inj p2).symm
    subst e1 e2
    refine ⟨_, rfl, wpAny_letOwnedTupleGo_zip (s := { s with heap := h', toks := tk }) z' fun h'' z'' sb => ?_⟩
    have hT2 : h''.get? s.heap.objs.size = some { cls := .type "tuple", data := .seq #[v1, v2] } := (sb.2 _ (Nat.ne_of_gt zL)).trans hT
    have nw : ObjOk X.prog X.w (upd H s.heap.objs.size (.tup [x, y])) h'' s.heap.objs.size (.tup [x, y]) :=
      ⟨by show 2 ≤ sizeLine; decide, [v1, v2], .cons ru (.cons ru2 .nil), ⟨_, hT2, rfl, _, rfl⟩⟩
    have J : Inv X pins σ (upd H s.heap.objs.size (.tup [x, y])) { s with heap := h'', toks := tk } :=
      I.turnedNew (t' := tk) (ch := [z, TI, TO, i1, i2]) (fun c o hb q => (sb.2 c fun e => hb (by simp [e])).trans (hk c o (fun e => hb (by simp [e])) (fun e => hb (by simp [e])) (fun e => hb (by simp [e])) (fun e => hb (by simp [e])) q)) hf (Nat.le_refl _) nw
    refine ⟨.ref s.heap.objs.size, _, J, rfl, ⟨_, x, y, rfl, I.hok.fresh (Nat.le_refl _), rfl, fun l hl => by rw [I.list_inj hl qx]; exact hx, fun l hl => by rw [I.tuple_inj hl qy]; exact hy⟩, ⟨z'', ?_, ⟨v1, v2, ?_⟩, ?_, ?_⟩, fun c hcm => ?_⟩
    · exact (sb.2 _ S.TIz).trans (hk _ _ S.TIz S.TITO S.TIi1 S.TIi2 hTI)
    · exact (sb.2 _ S.TOz).trans TO'
    · exact k1.1.at fun o q => (sb.2 _ (Ne.symm S.zi1)).trans q
    · exact k2.1.at fun o q => (sb.2 _ (Ne.symm S.zi2)).trans q
    · have lc : c < s.heap.objs.size := by
        rcases (show c = z ∨ c = TI ∨ c = TO ∨ c = i1 ∨ c = i2 by simpa using hcm) with q | q | q | q | q
        · rw [q]; exact zL
        · rw [q]; exact Heap.lt_size hTI
        · rw [q]; exact Heap.lt_size hTO
        · rw [q]; obtain ⟨_, e1, _⟩ := j1; exact Heap.lt_size e1
        · rw [q]; obtain ⟨_, e2, _⟩ := j2; exact Heap.lt_size e2
      rw [upd_ne (Nat.ne_of_lt lc)]
      exact (hf c hcm).1
  done := by
    intro X hP hw hK hc i pins s σ H E I hf st hg
    subst hP hw hK
    obtain ⟨hz, hTI, ⟨x0, y0, hTO⟩, j1, j2⟩ := st
    obtain ⟨xs, ys, qx, qy, l1, l2, hend⟩ := hg
    obtain ⟨its, rv, lp, _⟩ := I.list qx
    obtain ⟨its2, rv2, tp, _⟩ := I.tuple qy
    have m1 := rv.length
    have m2 := rv2.length
    have D1 := Draws.list (prog := X.prog) (w := X.w) (A := X.A.in1) (I.ok.hd hc) i1 a nj1 its.toArray
    have D2 := Draws.tuple (prog := X.prog) (w := X.w) (A := X.A.in1) (I.ok.hd hc) i2 b nj2 its2.toArray
    exact wpAny_pyNext_zipD2_end S D1 D2 hz hTI hTO ⟨j1, lp.isList⟩ ⟨j2, tp⟩ (by rw [List.size_toArray]; omega) (by rw [List.size_toArray]; omega) (by rw [List.size_toArray, List.size_toArray]; omega)
      fun h' tk hk => ⟨rfl, I.turnedL (t' := tk) (ch := [z, TI, TO, i1, i2]) (fun c o hb q => hk c o (fun e => hb (by simp [e])) (fun e => hb (by simp [e])) (fun e => hb (by simp [e])) (fun e => hb (by simp [e])) q) hf⟩
  self := fun A i s Q E st h => wpAny_pyIter_zip st.1 h
theorem vals_two {a b : Addr} : ∀ {us : List Value}, Vals [V.ref a, V.ref b] us → us = [Value.ref a, Value.ref b]
  | _, .cons r (.cons r' .nil) => by
    cases r
    cases r'
    rfl
def iZipLT (K : PySem.W.Frag) (ta : TA) : L2.TI := fun σ H R => ta σ H fun vs H1 => ∃ a b xs ys, vs = [.ref a, .ref b] ∧ SqL K H1 a xs ∧ SqT K H1 b ys ∧ R (IzLT K a b) H1
theorem pi_zipLT {X : Cx} {e e2 : Expr} {ta : TA} {p pos tpos : Pos} {elts : List Expr} {kk : Nat} (hg : Gl X "zip") (hm : X.mg "zip" = none) (ha : PA X [e, e2] ta)
    (hs : starEach [e, e2] X.env = (false, eval e X.env) :: starEach [e2] X.env := by rfl) (hpl : (backTo pos (starEach [e2] X.env)).any (·.1) = false := by rfl) : PI X (.Tuple elts kk tpos) (.Call (.Name "zip" p) [e, e2] [] pos) (iZipLT X.K ta) := by
  constructor
  intro pins s σ H R I h
  refine Call_ (ld_blt I hg hm PyProof.Rows.boot_zip (PyProof.Rows.callWith_type1 (thn (ha.run pos pins s σ H _ I h) fun us s1 ⟨vs, H1, I1, r1, q1⟩ => ?_) hs hpl))
  obtain ⟨a, b, xs, ys, ex, qx, qy, q⟩ := q1
  subst ex
  obtain rfl := vals_two r1
  obtain ⟨its, rv, lp, _⟩ := I1.list qx
  obtain ⟨its2, rv2, tp, _⟩ := I1.tuple qy
  have la : a < s1.heap.objs.size := lp.lt
  have lb : b < s1.heap.objs.size := by
    obtain ⟨o, ho, _⟩ := tp
    exact Heap.lt_size ho
  refine zip_begins2 (begins_list a its.toArray) (begins_tuple b its2.toArray) lp.isList tp fun h' hz hTI hTO g1 g2 hsz hk => wpAny_pyIter_zip hz ?_
  have J : Inv X pins σ H1 { s1 with heap := h' } := I1.kept (t' := s1.toks) hk
  have S := zip_sep2 (N := s1.heap.objs.size) (fp1 := [a]) (fp2 := [b]) (by intro c hc; rw [List.mem_singleton.mp hc]; exact la) (by intro c hc; rw [List.mem_singleton.mp hc]; exact lb)
  refine ⟨s1.heap.objs.size + 4, [s1.heap.objs.size + 4, s1.heap.objs.size + 2, s1.heap.objs.size + 3, s1.heap.objs.size, s1.heap.objs.size + 1], _, _, H1, rfl, J,
    turn_zipLT S (Nat.ne_of_lt la) (Nat.ne_of_lt (Nat.lt_succ_of_lt lb)), ⟨hz, hTI, ⟨_, _, hTO⟩, ⟨_, g1, rfl, rfl⟩, ⟨_, g2, rfl, rfl⟩⟩, fun c hcm => ?_, q⟩
  have lc : s1.heap.objs.size ≤ c := by
    rcases (show c = s1.heap.objs.size + 4 ∨ c = s1.heap.objs.size + 2 ∨ c = s1.heap.objs.size + 3 ∨ c = s1.heap.objs.size ∨ c = s1.heap.objs.size + 1 by simpa using hcm) with z | z | z | z | z
    · rw [z]; exact Nat.le_add_right _ _
    · rw [z]; exact Nat.le_add_right _ _
    · rw [z]; exact Nat.le_add_right _ _
    · rw [z]; exact Nat.le_refl _
    · rw [z]; exact Nat.le_add_right _ _
  exact I1.fpOk lc (I1.hok.fresh lc)
theorem walk_zipLT {K : PySem.W.Frag} {a b : Addr} {xs ys : List V} {n : Nat} (hn : n = min xs.length ys.length) : Walk (IzLT K a b) n (fun H => SqL K H a xs ∧ SqT K H b ys) (YPair (fun i => xs[i]?) (fun i => ys[i]?)) := by
  subst hn
  refine ⟨fun i _ hi q => ⟨xs, ys, xs[i]'(by omega), ys[i]'(by omega), q.1, q.2, by simp [show i < xs.length by omega], by simp [show i < ys.length by omega]⟩, fun _ q => ⟨xs, ys, q.1, q.2, by omega, by omega, by omega⟩, fun i H v H' _ q y => ?_⟩
  obtain ⟨T, x, y, h1, h2, h3, h4, h5⟩ := y
  exact ⟨T, x, y, h1, h2, h3, h4 xs q.1, h5 ys q.2⟩
/-! ### text A8 -/
/-! ## list(zip(xs, ys)) of two lists -/
theorem zip_nolen : typeLookup (.type "zip") "__len__" = pure none := am_miss_of_fast (by decide +kernel)
theorem zip_nohint : typeLookup (.type "zip") "__length_hint__" = pure none := am_miss_of_fast (by decide +kernel)
section
variable {X : Cx} {pins : List (Addr × Obj)} {σ : L2.St}
/-- where the zip stands when i pairs are out -/
def ZipSt (z TI TO i1 i2 a b q : Addr) (i : Nat) (h : Heap) : Prop :=
  ((IsZip h z TI TO .none ∧ ∃ x y, IsPair h TO x y) ∨ ∃ T f oT, IsZipHeld h z TI TO T f ∧ h.get? T = some oT ∧ T ≠ z ∧ T ≠ i1 ∧ T ≠ i2 ∧ T ≠ q) ∧ (∃ o, h.get? TO = some o) ∧ IsPair h TI (.ref i1) (.ref i2) ∧ h.IsListIter i1 a i ∧ h.IsListIter i2 b i
theorem zip_loop {A1 : Around} {z TI TO i1 i2 a b q : Addr} {xs ys : List V} {W : Nat → List V → Hp → Prop} {Rs : Result → Shared → Prop} (hA : A1.in1.in1.handled = none) (hA1 : A1.in1.handled = none) (D : ZipApart z TI TO i1 i2 a b)
    (hW : ∀ i acc H, W i acc H → SqL X.K H a xs ∧ SqL X.K H b ys ∧ H q = some (.lst acc) ∧ acc.length < sizeLine)
    (hs : ∀ i acc H T x y, W i acc H → xs[i]? = some x → ys[i]? = some y → H T = none → W (i + 1) (acc ++ [.ref T]) (upd (upd H T (.tup [x, y])) q (.lst (acc ++ [.ref T]))))
    (hd : ∀ i acc H s, (i = min xs.length ys.length) → W i acc H → Inv X pins σ H s → Rs (.ok (.ret .none)) s) :
    ∀ (m i : Nat) (acc : List V) (H : Hp) (s : Shared), m + i = min xs.length ys.length → Inv X pins σ H s → (∀ c ∈ [z, TI, TO, i1, i2], FpOk X pins H c) → ZipSt z TI TO i1 i2 a b q i s.heap → W i acc H →
      codeAny (model X.prog X.w) A1 (.builtin "list.extend.loop" ⟨[.ref q, .ref z, .none], []⟩) Rs s := by
  intro m
  induction m with
  | zero =>
    intro i acc H s hm I hf st hw
    refine codeAny_builtin PySem.F.entry_extend_loop ?_
    rw [Around.under_plainId PySem.F.plain_extend_loop _]
    show wpAny _ A1.in1 (pyNext (.ref z) >>= _) _ _ s
    obtain ⟨qx, qy, hq, _⟩ := hW _ _ _ hw
    obtain ⟨its, rv, p1, _⟩ := I.list qx
    obtain ⟨its2, rv2, p2, _⟩ := I.list qy
    have l1 := rv.length
    have l2 := rv2.length
    have he : its.toArray[i]? = none ∨ its2.toArray[i]? = none := by
      by_cases hh : xs.length ≤ i
      · exact .inl (by simp; omega)
      · exact .inr (by simp; omega)
    have fin : ∀ h', (∀ c o, c ≠ z → c ≠ TO → c ≠ i1 → c ≠ i2 → s.heap.get? c = some o → h'.get? c = some o) → Inv X pins σ H { s with heap := h' } := fun h' hk =>
      I.turnedL (t' := s.toks) (ch := [z, TI, TO, i1, i2]) (fun c o hb e => hk c o (fun e => hb (by simp [e])) (fun e => hb (by simp [e])) (fun e => hb (by simp [e])) (fun e => hb (by simp [e])) e) hf
    obtain ⟨hz, _, hTI, j1, j2⟩ := st
    rcases hz with ⟨hz, x, y, hTO⟩ | ⟨T, f, oT, hz, hT, _⟩
    · refine wpAny_bind (wpAny_pyNext_zip_end hA1 D hz hTI hTO j1 j2 p1.isList p2.isList he fun h' hk => ?_)
      exact wpAny_pure (hd i acc H _ (by omega) hw (fin h' hk))
    · refine wpAny_bind (wpAny_pyNext_zip_end_held hA1 D hz hT hTI j1 j2 p1.isList p2.isList he fun h' hk => ?_)
      exact wpAny_pure (hd i acc H _ (by omega) hw (fin h' fun c o c1 _ c3 c4 e => hk c o c1 c3 c4 e))
  | succ m ih =>
    intro i acc H s hm I hf st hw
    refine codeAny_builtin PySem.F.entry_extend_loop ?_
    rw [Around.under_plainId PySem.F.plain_extend_loop _]
    show wpAny _ A1.in1 (pyNext (.ref z) >>= _) _ _ s
    obtain ⟨qx, qy, hq, hlen⟩ := hW _ _ _ hw
    obtain ⟨its, rv, p1, _⟩ := I.list qx
    obtain ⟨its2, rv2, p2, _⟩ := I.list qy
    obtain ⟨x, hx⟩ : ∃ x, xs[i]? = some x := ⟨_, List.getElem?_eq_getElem (show i < xs.length by omega)⟩
    obtain ⟨y, hy⟩ : ∃ y, ys[i]? = some y := ⟨_, List.getElem?_eq_getElem (show i < ys.length by omega)⟩
    obtain ⟨u, hu, ru⟩ := rv.get hx
    obtain ⟨u2, hu2, ru2⟩ := rv2.get hy
    have nz := (hf z (by simp)).1
    have nTI := (hf TI (by simp)).1
    have nTO := (hf TO (by simp)).1
    have n1 := (hf i1 (by simp)).1
    have n2 := (hf i2 (by simp)).1
    -- what one more pair makes
    have lz : ∀ c, c = z ∨ c = TI ∨ c = TO ∨ c = i1 ∨ c = i2 → c ≠ s.heap.objs.size ∧ c ≠ q := fun c hc => by
      have hcn : H c = none := by rcases hc with e | e | e | e | e <;> rw [e] <;> assumption
      have hcl : c < s.heap.objs.size := by
        obtain ⟨hz, ⟨_, e0⟩, hTI, ⟨_, e1, _⟩, ⟨_, e2, _⟩⟩ := st
        rcases hc with e | e | e | e | e
        · rw [e]
          rcases hz with ⟨hz, _⟩ | ⟨_, _, _, hz, _⟩
          · exact Heap.lt_size hz
          · exact Heap.lt_size hz
        · rw [e]; exact Heap.lt_size hTI
        · rw [e]; exact Heap.lt_size e0
        · rw [e]; exact Heap.lt_size e1
        · rw [e]; exact Heap.lt_size e2
      exact ⟨Nat.ne_of_lt hcl, fun e => by rw [e, hq] at hcn; cases hcn⟩
    have nT : H s.heap.objs.size = none := I.hok.fresh (Nat.le_refl _)
    have qT : q ≠ s.heap.objs.size := ne_of_none hq nT
    have step : ∀ h', (∀ c o, c ≠ z → c ≠ TO → c ≠ i1 → c ≠ i2 → s.heap.get? c = some o → h'.get? c = some o) → (∃ T f oT, IsZipHeld h' z TI TO T f ∧ h'.get? T = some oT ∧ T ≠ z ∧ T ≠ i1 ∧ T ≠ i2 ∧ T ≠ q) → (∃ o, h'.get? TO = some o) → IsPair h' s.heap.objs.size u u2 → h'.IsListIter i1 a (i + 1) → h'.IsListIter i2 b (i + 1) →
        wpAny (model X.prog X.w) A1.in1 (updateSeq q (·.push (.ref s.heap.objs.size)) >>= fun _ => again (.builtin "list.extend.loop" ⟨[.ref q, .ref z, .none], []⟩))
          (fun fin s' => match fin with | .done f => Rs (.ok f) s' | .again c' => c'.quiet = true ∧ codeAny (model X.prog X.w) A1 c' Rs s') (fun e s' => Rs (.error e) s') { s with heap := h' } := by
      intro h' hk hz' hTO' hT k1 k2
      have nw : ObjOk X.prog X.w (upd H s.heap.objs.size (.tup [x, y])) h' s.heap.objs.size (.tup [x, y]) := ⟨by show 2 ≤ sizeLine; decide, [u, u2], .cons ru (.cons ru2 .nil), ⟨_, hT, rfl, _, rfl⟩⟩
      have J : Inv X pins σ (upd H s.heap.objs.size (.tup [x, y])) { s with heap := h' } :=
        I.turnedNew (t' := s.toks) (ch := [z, TI, TO, i1, i2]) (fun c o hb e => hk c o (fun e => hb (by simp [e])) (fun e => hb (by simp [e])) (fun e => hb (by simp [e])) (fun e => hb (by simp [e])) e) hf (Nat.le_refl _) nw
      have hq2 : upd H s.heap.objs.size (.tup [x, y]) q = some (.lst acc) := by rw [upd_ne qT]; exact hq
      obtain ⟨zz, its3, k, r3, hl3, e3⟩ := J.lstM hq2
      refine wpAny_bind (wpAny_updateSeq e3 rfl (wpAny_pure ⟨plainId_quiet PySem.F.plain_extend_loop _, ?_⟩) (by rw [List.size_toArray]; omega) (by show (its3.toArray.push _).size ≤ sizeLine + 1; rw [Array.size_push, List.size_toArray]; omega))
      have J2 := J.lset (f := (·.push (.ref s.heap.objs.size))) (its' := its3 ++ [.ref s.heap.objs.size]) (t' := s.toks) hq2 e3 (by simp) (r3.append (.cons (show RelV (.ref s.heap.objs.size) (.ref s.heap.objs.size) from rfl) .nil)) (by rw [List.length_append, List.length_singleton]; omega)
      have oth : ∀ c o, c ≠ q → h'.get? c = some o → (h'.update q (Obj.mapSeq (·.push (.ref s.heap.objs.size)))).get? c = some o := fun c o hc e => (Heap.get?_update_other _ _ (Ne.symm hc)).trans e
      refine ih (i + 1) (acc ++ [.ref s.heap.objs.size]) _ _ (by omega) J2 (fun c hc => ?_) ?_ (hs i acc H _ x y hw hx hy nT)
      · obtain ⟨c1, c2⟩ := lz c (by simpa using hc)
        refine ⟨?_, (hf c hc).2⟩
        rw [upd_ne c2, upd_ne c1]
        exact (hf c hc).1
      · obtain ⟨T, f, oT, hz', hT0, t1, t2, t3, t4⟩ := hz'
        obtain ⟨o, hTO'⟩ := hTO'
        refine ⟨.inr ⟨T, f, oT, oth _ _ (lz z (by simp)).2 hz', oth _ _ t4 hT0, t1, t2, t3, t4⟩, ⟨_, oth _ _ (lz TO (by simp)).2 hTO'⟩, ?_, k1.at fun o e => oth _ _ (lz i1 (by simp)).2 e, k2.at fun o e => oth _ _ (lz i2 (by simp)).2 e⟩
        refine oth _ _ (lz TI (by simp)).2 (hk _ _ D.TIz D.TITO D.TIi1 D.TIi2 ?_)
        exact st.2.2.1
    obtain ⟨hz, ⟨oTO, hTO0⟩, hTI, j1, j2⟩ := id st
    rcases hz with ⟨hz, x0, y0, hTO⟩ | ⟨T, f, oT, hz, hT, t1, t2, t3, t4⟩
    · refine wpAny_bind (wpAny_pyNext_zip_item D hz hTI hTO j1 j2 p1.isList p2.isList (x := u) (y := u2) (by simpa using hu) (by simpa using hu2) fun h' z' TO' k1 k2 hT hsz hk => ?_)
      exact step h' hk ⟨_, false, _, z', hT, Ne.symm (lz z (by simp)).1, Ne.symm (lz i1 (by simp)).1, Ne.symm (lz i2 (by simp)).1, Ne.symm qT⟩ ⟨_, TO'⟩ hT k1 k2
    · refine wpAny_bind (wpAny_pyNext_zip_item_held D hz hT hTI j1 j2 p1.isList p2.isList (x := u) (y := u2) (by simpa using hu) (by simpa using hu2) fun h' z' k1 k2 hT2 hsz hk => ?_)
      exact step h' (fun c o c1 _ c3 c4 e => hk c o c1 c3 c4 e) ⟨T, true, oT, z', hk T oT t1 t2 t3 hT, t1, t2, t3, t4⟩ ⟨_, hk TO _ D.TOz D.TOi1 D.TOi2 hTO0⟩ hT2 k1 k2
/-- list(zip(..)): W i acc, i pairs are in the list at q -/
def tListZip (K : PySem.W.Frag) (ta : TA) : TE := fun σ H Q => ta σ H fun vs H1 => ∃ a b xs ys, vs = [.ref a, .ref b] ∧ SqL K H1 a xs ∧ SqL K H1 b ys ∧ ∀ q, H1 q = none → ∃ W : Nat → List V → Hp → Prop, W 0 [] (upd H1 q (.lst [])) ∧
  (∀ i acc H, W i acc H → SqL K H a xs ∧ SqL K H b ys ∧ H q = some (.lst acc) ∧ acc.length < sizeLine) ∧
  (∀ i acc H T x y, W i acc H → xs[i]? = some x → ys[i]? = some y → H T = none → W (i + 1) (acc ++ [.ref T]) (upd (upd H T (.tup [x, y])) q (.lst (acc ++ [.ref T])))) ∧ ∀ acc H, W (min xs.length ys.length) acc H → Q (.ref q) H
theorem list_zip_call {H1 : Hp} {s1 : Shared} {h' : Heap} {Q : VK} {a b z TI TO i1 i2 : Addr} {xs ys : List V} (hc : X.calm = true) (I2 : Inv X pins σ H1 { s1 with heap := h' }) (hf : ∀ c ∈ [z, TI, TO, i1, i2], FpOk X pins H1 c) (D : ZipApart z TI TO i1 i2 a b)
    (hz : IsZip h' z TI TO .none) (hTI : IsPair h' TI (.ref i1) (.ref i2)) (hTO : IsPair h' TO .none .none) (j1 : h'.IsListIter i1 a 0) (j2 : h'.IsListIter i2 b 0)
    (q1 : ∀ q, H1 q = none → ∃ W : Nat → List V → Hp → Prop, W 0 [] (upd H1 q (.lst [])) ∧ (∀ i acc H, W i acc H → SqL X.K H a xs ∧ SqL X.K H b ys ∧ H q = some (.lst acc) ∧ acc.length < sizeLine) ∧
      (∀ i acc H T x y, W i acc H → xs[i]? = some x → ys[i]? = some y → H T = none → W (i + 1) (acc ++ [.ref T]) (upd (upd H T (.tup [x, y])) q (.lst (acc ++ [.ref T])))) ∧ ∀ acc H, W (min xs.length ys.length) acc H → Q (.ref q) H) :
    wpAny (model X.prog X.w) X.A (call (.type "list") [.ref z]) (EP X pins σ Q) X.xe { s1 with heap := h' } := by
  refine callType_codes (Q₁ := fun obj s₁ => obj = .ref h'.objs.size ∧ s₁ = { s1 with heap := h'.push { cls := .type "list", data := .seq #[] } }) PySem.F.called_list (PySem.F.typeCall_list_1 _) PySem.F.entry_list_init
    (code_list_new (s := { s1 with heap := h' }) _ ⟨rfl, rfl⟩) fun obj s₁ h₁ => ?_
  obtain ⟨rfl, rfl⟩ := h₁
  have gS : (h'.push { cls := .type "list", data := .seq #[] }).get? h'.objs.size = some { cls := .type "list", data := .seq #[] } := Heap.get?_push_size _ rfl
  refine ⟨⟨_, gS, rfl⟩, PySem.F.args_list_init_2 _ _, ?_⟩
  have fr : H1 h'.objs.size = none := I2.hok.fresh (Nat.le_refl _)
  obtain ⟨W, w0, hW, hs1, hd⟩ := q1 _ fr
  have I3 : Inv X pins σ (upd H1 h'.objs.size (.lst [])) { s1 with heap := h'.push { cls := .type "list", data := .seq #[] } } := I2.lnew (its := []) (t' := s1.toks) .nil (Nat.zero_le _)
  have qz : h'.objs.size ≠ z := Nat.ne_of_gt (Heap.lt_size hz)
  have qTI : h'.objs.size ≠ TI := Nat.ne_of_gt (Heap.lt_size hTI)
  have qTO : h'.objs.size ≠ TO := Nat.ne_of_gt (Heap.lt_size hTO)
  have q1 : h'.objs.size ≠ i1 := Nat.ne_of_gt (by obtain ⟨_, e1, _⟩ := j1; exact Heap.lt_size e1)
  have q2 : h'.objs.size ≠ i2 := Nat.ne_of_gt (by obtain ⟨_, e1, _⟩ := j2; exact Heap.lt_size e1)
  show wpAny _ _ (do let old ← Builtin.List.listItems (.ref h'.objs.size); Builtin.List.listUpdate (.ref h'.objs.size) (fun _ => #[]); letGo old.toList.reverse; Builtin.List.listExtendWith (.ref h'.objs.size) (.ref z) .none) _ _ _
  refine wpAny_bind ?_
  unfold Builtin.List.listItems
  refine wpAny_bind (wpAny_seqItems gS rfl (wpAny_pure ?_))
  show wpAny _ _ (updateSeq h'.objs.size (fun _ => #[]) >>= fun _ => letGo (#[] : Array Value).toList.reverse >>= fun _ => Builtin.List.listExtendWith (.ref h'.objs.size) (.ref z) .none) _ _ _
  refine wpAny_bind (wpAny_updateSeq gS rfl ?_)
  have I4 := I3.lset (f := fun _ => #[]) (its := []) (its' := []) (ys := []) (t' := s1.toks) upd_same gS rfl .nil (Nat.zero_le _)
  rw [upd_upd] at I4
  refine wpAny_bind (wpAny_letGo ?_)
  have kp : ∀ (f : Array Value → Array Value) c o, c ≠ h'.objs.size → h'.get? c = some o → ((h'.push { cls := .type "list", data := .seq #[] }).update h'.objs.size (Obj.mapSeq f)).get? c = some o := fun f c o hc e =>
    (Heap.get?_update_other _ _ (Ne.symm hc)).trans (Heap.get?_push_of_some _ e)
  generalize hh2 : (h'.push { cls := .type "list", data := .seq #[] }).update h'.objs.size (Obj.mapSeq fun _ => #[]) = h2 at I4
  have kp2 : ∀ c o, c ≠ h'.objs.size → h'.get? c = some o → h2.get? c = some o := fun c o hc e => by rw [← hh2]; exact kp _ c o hc e
  have hz2 : IsZip h2 z TI TO .none := kp2 _ _ (Ne.symm qz) hz
  unfold Builtin.List.listExtendWith
  refine wpAny_bind (wpAny_typeOf (T := "zip") (show Shared.TypeIs { s1 with heap := h2 } (.ref z) "zip" from ⟨_, hz2, rfl⟩) ?_)
  have b1 : Builtin.List.listSameRef (.ref h'.objs.size) (.ref z) = false := by simp [Builtin.List.listSameRef, qz]
  have b2 : (Value.type "zip" == Value.type "list") = false := by decide
  have b3 : (Value.type "zip" == Value.type "tuple") = false := by decide
  simp only [b1, b2, b3, Bool.or_false, Bool.false_eq_true, if_false]
  refine wpAny_bind (wpAny_pyIter_zip (s := { s1 with heap := h2 }) hz2 ?_)
  refine wpAny_bind (wpAny_holding ?_)
  unfold Builtin.List.listLengthHint
  refine wpAny_bind (wpAny_specialOf (T := "zip") (show Shared.TypeIs { s1 with heap := h2 } (.ref z) "zip" from ⟨_, hz2, rfl⟩) zip_nolen ?_)
  show wpAny _ _ (specialOf (Value.ref z) (Str.ofString "__length_hint__") >>= _) _ _ _
  refine wpAny_bind (wpAny_specialOf (T := "zip") (show Shared.TypeIs { s1 with heap := h2 } (.ref z) "zip" from ⟨_, hz2, rfl⟩) zip_nohint ?_)
  refine wpAny_pure ?_
  show wpAny _ _ (rule "list.extend.makes-room" >>= fun _ => Builtin.List.listTouch (.ref h'.objs.size) >>= fun _ => again (.builtin "list.extend.loop" ⟨[.ref h'.objs.size, .ref z, .none], []⟩)) _ _ _
  refine wpAny_bind (wpAny_rule ?_)
  refine wpAny_bind ?_
  show wpAny _ _ (updateSeq h'.objs.size (·.push .none) >>= fun _ => updateSeq h'.objs.size (·.pop)) _ _ _
  obtain ⟨z3, its3, k3, r3, hl3, e3⟩ := I4.lstM upd_same
  cases r3
  refine wpAny_bind (wpAny_updateSeq e3 rfl ?_)
  have I5 := I4.lset (f := (·.push Value.none)) (its' := [Value.none]) (ys := [.non]) (t' := s1.toks) upd_same e3 (by simp) (.cons rfl .nil) (by rw [List.length_singleton, sizeLine_eq]; decide)
  obtain ⟨z4, its4, k4, r4, hl4, e4⟩ := I5.lstM upd_same
  obtain ⟨u4, rfl, ru4⟩ := r4.one
  refine wpAny_updateSeq e4 rfl ?_ (by show 1 ≤ sizeLine; rw [sizeLine_eq]; decide) (by show 0 ≤ sizeLine + 1; exact Nat.zero_le _)
  have I6 := I5.lset (f := (·.pop)) (its := [u4]) (its' := []) (ys := []) (t' := s1.toks) upd_same e4 (by rfl) .nil (Nat.zero_le _)
  rw [upd_upd, upd_upd] at I6
  have kp3 : ∀ c o, c ≠ h'.objs.size → h'.get? c = some o → ((h2.update h'.objs.size (Obj.mapSeq (·.push Value.none))).update h'.objs.size (Obj.mapSeq (·.pop))).get? c = some o := fun c o hc e =>
    (Heap.get?_update_other _ _ (Ne.symm hc)).trans ((Heap.get?_update_other _ _ (Ne.symm hc)).trans (kp2 c o hc e))
  refine wpAny_pure ⟨plainId_quiet PySem.F.plain_extend_loop _, zip_loop (A1 := X.A.in1) (pins := pins) (σ := σ) (W := W) (xs := xs) (ys := ys) (I2.ok.hd hc) (I2.ok.hd hc) D hW hs1 (fun i acc H s hi hw J => ?_) (min xs.length ys.length) 0 [] _ _ (by omega) I6 (fun c hcm => ?_) ?_ w0⟩
  · subst hi
    exact ⟨rfl, .ref _, H, J, rfl, hd acc H hw⟩
  · refine ⟨?_, (hf c hcm).2⟩
    rw [upd_ne]
    · exact (hf c hcm).1
    · rcases (show c = z ∨ c = TI ∨ c = TO ∨ c = i1 ∨ c = i2 by simpa using hcm) with e | e | e | e | e <;> rw [e]
      · exact Ne.symm qz
      · exact Ne.symm qTI
      · exact Ne.symm qTO
      · exact Ne.symm q1
      · exact Ne.symm q2
  · exact ⟨.inl ⟨kp3 _ _ (Ne.symm qz) hz, _, _, kp3 _ _ (Ne.symm qTO) hTO⟩, ⟨_, kp3 _ _ (Ne.symm qTO) hTO⟩, kp3 _ _ (Ne.symm qTI) hTI, j1.at fun o e => kp3 _ _ (Ne.symm q1) e, j2.at fun o e => kp3 _ _ (Ne.symm q2) e⟩
theorem pe_listZip {e e2 : Expr} {ta : TA} {p p2 pos pos2 : Pos} (hc : X.calm = true) (hg : Gl X "list") (hm : X.mg "list" = none) (hg2 : Gl X "zip") (hm2 : X.mg "zip" = none) (ha : PA X [e, e2] ta)
    (hs0 : starEach [.Call (.Name "zip" p2) [e, e2] [] pos2] X.env = (false, eval (.Call (.Name "zip" p2) [e, e2] [] pos2) X.env) :: starEach [] X.env := by rfl)
    (hs : starEach [e, e2] X.env = (false, eval e X.env) :: starEach [e2] X.env := by rfl) (hpl : (backTo pos2 (starEach [e2] X.env)).any (·.1) = false := by rfl) :
    PE X (.Call (.Name "list" p) [.Call (.Name "zip" p2) [e, e2] [] pos2] [] pos) (tListZip X.K ta) := by
  constructor
  intro pins s σ H Q I h
  refine wpAny_Call_Name_kw (ld_blt I hg hm boot_list ?_)
  refine PyProof.Rows.callWith_type1 ?_ hs0 rfl
  rw [hs0]
  show wpAny _ _ (spliced ((false, eval (.Call (.Name "zip" p2) [e, e2] [] pos2) X.env) :: backTo pos (starEach [] X.env))) _ _ s
  refine Calls.spliced_cons ?_
  refine wpAny_Call_Name_kw (ld_blt I hg2 hm2 PyProof.Rows.boot_zip (PyProof.Rows.callWith_type1 (thn (ha.run pos2 pins s σ H _ I h) fun us s1 ⟨vs, H1, I1, r1, q1⟩ => ?_) hs hpl))
  obtain ⟨a, b, xs, ys, ex, qx, qy, q1⟩ := q1
  subst ex
  obtain rfl := vals_two r1
  obtain ⟨its, rv, p1, _⟩ := I1.list qx
  obtain ⟨its2, rv2, p3, _⟩ := I1.list qy
  refine call_zip_2 p1.isList p3.isList fun h' hz hTI hTO j1 j2 hsz hk => ?_
  refine Calls.spliced_nil ?_
  have D := PySem.W.ktu_apart s1.heap.objs.size a b p1.lt p3.lt
  have I2 : Inv X pins σ H1 { s1 with heap := h' } := I1.kept (t' := s1.toks) hk
  have hf : ∀ c ∈ [s1.heap.objs.size + 4, s1.heap.objs.size + 2, s1.heap.objs.size + 3, s1.heap.objs.size, s1.heap.objs.size + 1], FpOk X pins H1 c := fun c hcm => by
    have lc : s1.heap.objs.size ≤ c := by
      rcases (show c = s1.heap.objs.size + 4 ∨ c = s1.heap.objs.size + 2 ∨ c = s1.heap.objs.size + 3 ∨ c = s1.heap.objs.size ∨ c = s1.heap.objs.size + 1 by simpa using hcm) with z | z | z | z | z
      · rw [z]; exact Nat.le_add_right _ _
      · rw [z]; exact Nat.le_add_right _ _
      · rw [z]; exact Nat.le_add_right _ _
      · rw [z]; exact Nat.le_refl _
      · rw [z]; exact Nat.le_add_right _ _
    exact I1.fpOk lc (I1.hok.fresh lc)
  exact list_zip_call hc I2 hf D hz hTI hTO j1 j2 q1
end
/-! ### text M1 -/
/-! ## the plain model of a deal -/
def iN (n : Nat) : PyData := .int (n : Int)
def vN (n : Nat) : V := .int (n : Int)
def num (n : Nat) : Str := Str.ofString (toString ((n : Nat) : Int))
inductive Qu where
  | along (t : List Nat) | touch (t : List Nat) | both (a b : Nat)
inductive Sa where
  | least (n : Nat) (q : Qu) | most (n : Nat) (q : Qu) | follow (a b : Nat) | no (s : Sa)
inductive As where
  | least (q : Qu) | most (q : Qu) | followers (a : Nat) | sure | say (s : Sa)
structure Rd where
  nm : Str
  ft : Str
  hd : Str
  lo : Nat
  hi : Option Nat
structure Deal where
  places : List Str
  inn : Str
  out : Str
  roads : List Rd
  known : List (Nat × List Nat)
  asks : List As
def tup1 (t : List Nat) : PyData := .tuple (t.map iN)
def Qu.d : Qu → PyData
  | .along t => .tuple [.str "along", tup1 t]
  | .touch t => .tuple [.str "touch", tup1 t]
  | .both a b => .tuple [.str "both", iN a, iN b]
def Sa.d : Sa → PyData
  | .least n q => .tuple [.str "least", iN n, q.d]
  | .most n q => .tuple [.str "most", iN n, q.d]
  | .follow a b => .tuple [.str "follow", iN a, iN b]
  | .no s => .tuple [.str "not", s.d]
def As.d : As → PyData
  | .least q => .tuple [.str "least", q.d]
  | .most q => .tuple [.str "most", q.d]
  | .followers a => .tuple [.str "followers", iN a]
  | .sure => .tuple [.str "sure"]
  | .say s => .tuple [.str "say", s.d]
def Sa.nots : Sa → Nat
  | .no s => s.nots + 1
  | _ => 0
def oN : Option Nat → PyData
  | none => .none
  | some n => iN n
def Rd.d (r : Rd) : PyData := .tuple [.str r.nm, .str r.ft, .str r.hd, iN r.lo, oN r.hi]
def Deal.names (d : Deal) : List Str := d.roads.map (·.nm)
def Deal.ends (d : Deal) : List (Str × Str) := d.roads.map fun r => (r.ft, r.hd)
def knD (k : Nat × List Nat) : PyData := .tuple [iN k.1, tup1 k.2]
/-! ### the order of the places -/
def freeO (es : List (Str × Str)) (left : List Str) : List Str := left.filter fun n => (es.filter fun e => e.2 == n && left.contains e.1).isEmpty
def ordGo (es : List (Str × Str)) : Nat → List Str → List Str → List Str
  | 0, _, found => found
  | k + 1, left, found => match freeO es left with
    | [] => found
    | x :: _ => ordGo es k (left.erase x) (found ++ [x])
def leftO (places : List Str) (a b : Str) : List Str := places.filter fun n => !(n == a || n == b)
def orderF (places : List Str) (a b : Str) (es : List (Str × Str)) : List Str := ordGo es (leftO places a b).length (leftO places a b) [a] ++ [b]
def Deal.order (d : Deal) : List Str := orderF d.places d.inn d.out d.ends
def endsD (order : List Str) (es : List (Str × Str)) : List PyData := es.map fun e => .tuple [iN (order.idxOf e.1), iN (order.idxOf e.2)]
def Deal.netD (d : Deal) : PyData := .tuple [iN d.order.length, .tuple (endsD d.order d.ends)]
/-- the book of a deal -/
def Deal.book (d : Deal) : PyData := .tuple [.tuple (d.order.map .str), .tuple (d.names.map .str), d.netD, .tuple (d.roads.map fun r => .tuple [iN r.lo, oN r.hi]), .tuple (d.known.map fun k => .tuple [tup1 k.2, iN k.1]), .tuple (d.asks.map As.d)]
/-! ### the words -/
def nmAt (names : List Str) (i : Nat) : Str := names.getD i ""
def Qu.w (names : List Str) : Qu → List Str
  | .along t => "along" :: t.map (nmAt names)
  | .touch t => "touch" :: t.map (nmAt names)
  | .both a b => ["both", nmAt names a, nmAt names b]
def Sa.w (names : List Str) : Sa → List Str
  | .least n q => "least" :: num n :: q.w names
  | .most n q => "most" :: num n :: q.w names
  | .follow a b => ["follow", nmAt names a, nmAt names b]
  | .no s => "not" :: s.w names
def As.w (names : List Str) : As → List Str
  | .least q => "ask" :: "least" :: q.w names
  | .most q => "ask" :: "most" :: q.w names
  | .followers a => ["ask", "followers", nmAt names a]
  | .sure => ["ask", "sure"]
  | .say s => "say" :: s.w names
/-- the words of a question, those of touch in any order -/
inductive QuW (names : List Str) : Qu → List Str → Prop
  | along (t : List Nat) : QuW names (.along t) ("along" :: t.map (nmAt names))
  | touch (t u : List Nat) : u.Perm t → QuW names (.touch t) ("touch" :: u.map (nmAt names))
  | both (a b : Nat) : QuW names (.both a b) ["both", nmAt names a, nmAt names b]
inductive SaW (names : List Str) : Sa → List Str → Prop
  | least (n : Nat) {q : Qu} {w : List Str} : QuW names q w → SaW names (.least n q) ("least" :: num n :: w)
  | most (n : Nat) {q : Qu} {w : List Str} : QuW names q w → SaW names (.most n q) ("most" :: num n :: w)
  | follow (a b : Nat) : SaW names (.follow a b) ["follow", nmAt names a, nmAt names b]
  | no {s : Sa} {w : List Str} : SaW names s w → SaW names (.no s) ("not" :: w)
inductive AsW (names : List Str) : As → List Str → Prop
  | least {q : Qu} {w : List Str} : QuW names q w → AsW names (.least q) ("ask" :: "least" :: w)
  | most {q : Qu} {w : List Str} : QuW names q w → AsW names (.most q) ("ask" :: "most" :: w)
  | followers (a : Nat) : AsW names (.followers a) ["ask", "followers", nmAt names a]
  | sure : AsW names .sure ["ask", "sure"]
  | say {s : Sa} {w : List Str} : SaW names s w → AsW names (.say s) ("say" :: w)
inductive HoW : Nat → Option Nat → List Str → Prop
  | open0 : HoW 0 none ["?"]
  | open1 (n : Nat) : HoW n none [num n, ".."]
  | one (n : Nat) : HoW n (some n) [num n]
  | two (n m : Nat) : HoW n (some m) [num n, "..", num m]
inductive RdW : Rd → List Str → Prop
  | mk {r : Rd} {w : List Str} : HoW r.lo r.hi w → RdW r ("road" :: r.nm :: ":" :: r.ft :: ">" :: r.hd :: w)
def knW (names : List Str) (k : Nat × List Nat) : List Str := "known" :: num k.1 :: ":" :: k.2.map (nmAt names)
/-- rows one behind the other, each closed by ; -/
def sc1 : List Str := [";"]
inductive Rows {α : Type} (R : α → List Str → Prop) : List α → List (List Str) → Prop
  | nil : Rows R [] []
  | cons {a : α} {w : List Str} {as : List α} {ws : List (List Str)} : R a w → Rows R as ws → Rows R (a :: as) ((w ++ sc1) :: ws)
/-- the rows that tell a deal -/
def Told (d : Deal) (rows : List (List Str)) : Prop := ∃ rw kw aw, Rows RdW d.roads rw ∧ Rows (fun k w => w = knW d.names k) d.known kw ∧ Rows (AsW d.names) d.asks aw ∧
  rows = ((((("places" : Str) :: (d.places ++ sc1)) : List Str) :: (("in" : Str) :: d.inn :: sc1) :: (("out" : Str) :: d.out :: sc1) :: (rw ++ kw ++ aw) : List (List Str)))
/-! ### what is a good deal -/
def letter (c : Nat) : Bool := decide (97 ≤ c) && decide (c ≤ 122)
def figure (c : Nat) : Bool := decide (48 ≤ c) && decide (c ≤ 57)
/-- a name: a letter and letters and figures, eight signs at the most, no keyword -/
structure Nm (x : Str) : Prop where
  first : ∃ c cs, x.cps.toList = c :: cs ∧ letter c = true ∧ ∀ b ∈ cs, (letter b || figure b) = true
  short : x.length ≤ 8
  noKw : x ∉ kws
/-- each road goes on where the one before it ended, the first at u; it ends at v -/
inductive Path {α : Type} (es : List (α × α)) : α → List Nat → α → Prop
  | nil (u : α) : Path es u [] u
  | cons {u v : α} {i : Nat} {t : List Nat} {m : α} : es[i]? = some (u, m) → Path es m t v → Path es u (i :: t) v
/-- a stretch: some roads, each going on where the one before it ended -/
def Str8 {α : Type} (es : List (α × α)) (t : List Nat) : Prop := t ≠ [] ∧ ∃ u v, Path es u t v
inductive QuOk {α : Type} (es : List (α × α)) : Qu → Prop
  | along {t : List Nat} : Str8 es t → t.length ≤ 60 → QuOk es (.along t)
  | touch {t : List Nat} : t ≠ [] → (∀ i ∈ t, i < es.length) → t.Pairwise (· < ·) → QuOk es (.touch t)
  | both {a b : Nat} : a < es.length → b < es.length → QuOk es (.both a b)
inductive SaOk {α : Type} (es : List (α × α)) : Sa → Prop
  | least {n : Nat} {q : Qu} : n ≤ 10 ^ 30 → QuOk es q → SaOk es (.least n q)
  | most {n : Nat} {q : Qu} : n ≤ 10 ^ 30 → QuOk es q → SaOk es (.most n q)
  | follow {a b : Nat} : a < es.length → b < es.length → SaOk es (.follow a b)
  | no {s : Sa} : SaOk es s → SaOk es (.no s)
inductive AsOk {α : Type} (es : List (α × α)) : As → Prop
  | least {q : Qu} : QuOk es q → AsOk es (.least q)
  | most {q : Qu} : QuOk es q → AsOk es (.most q)
  | followers {a : Nat} : a < es.length → AsOk es (.followers a)
  | sure : AsOk es .sure
  | say {s : Sa} : SaOk es s → s.nots ≤ 8 → AsOk es (.say s)
structure Deal.Ok (d : Deal) : Prop where
  nms : ∀ x ∈ d.places ++ d.names, Nm x
  nd : (d.places ++ d.names).Nodup
  few : d.places.length ≤ 24
  inn : d.inn ∈ d.places
  out : d.out ∈ d.places
  inout : d.inn ≠ d.out
  some_ : d.roads ≠ []
  roadsN : d.roads.length ≤ 60
  foot : ∀ r ∈ d.roads, r.ft ∈ d.places ∧ r.ft ≠ d.out
  head : ∀ r ∈ d.roads, r.hd ∈ d.places ∧ r.hd ≠ d.inn
  rank : ∃ f : Str → Nat, ∀ r ∈ d.roads, f r.ft < f r.hd
  hole : ∀ r ∈ d.roads, r.lo ≤ 10 ^ 28 ∧ ∀ h, r.hi = some h → r.lo ≤ h ∧ h ≤ 10 ^ 28
  known : ∀ k ∈ d.known, 1 ≤ k.1 ∧ k.1 ≤ 10 ^ 30 ∧ k.2.length ≤ 60 ∧ k.2 ≠ [] ∧ Path d.ends d.inn k.2 d.out
  knownN : d.known.length ≤ 60
  asks : ∀ a ∈ d.asks, AsOk d.ends a
  asksN : d.asks.length ≤ 40
def OrdOk (places : List Str) (es : List (Str × Str)) : Prop := (∀ x ∈ places, PyData.strOk x = true) ∧ places.length ≤ 1000 ∧ es.length ≤ 1000 ∧ ∀ left : List Str, left ≠ [] → (∀ x ∈ left, x ∈ places) → freeO es left ≠ []
def Deal.OrdOk (d : Deal) : Prop := Bk.OrdOk d.places d.ends
/-! ### text A9 -/
section
variable {K : PySem.W.Frag} {te ta tb : TE} {tA : TA} {σ : L2.St} {H : Hp} {x y v : V} {vs : List V} {Q : VK} {QS : L2.St → Hp → Prop} {f : Str} {RI : It → Hp → Prop} {trs : List (TE × TE)} {QP : List (V × V) → Hp → Prop}
theorem u_index : rIndex K x vs H Q = ∃ (a : Addr) (ys : List V) (y : V) (j : Nat) (z : V), x = V.ref a ∧ vs = [y] ∧ SqL K H a ys ∧ flatV y = true ∧ ys.all flatV = true ∧ ys[j]? = some z ∧ eqV z y = true ∧ (∀ (m : Nat) (z' : V), m < j → ys[m]? = some z' → eqV z' y = false) ∧ Q (.int (j : Nat)) H := rfl
theorem u_sortedI : rSortedI K vs H Q = ∃ (a : Addr) (ns : List Int), vs = [V.ref a] ∧ SqL K H a (ns.map V.int) ∧ ∀ (ns' : List Int) (p : Addr), ns'.Perm ns → ns'.Pairwise (· ≤ ·) → H p = none → Q (.ref p) (upd H p (.lst (ns'.map V.int))) := rfl
theorem u_all : rAll K vs H Q = ∃ (a : Addr) (bs : List Bool), vs = [V.ref a] ∧ SqL K H a (bs.map V.bl) ∧ Q (.bl (bs.all id)) H := rfl
theorem u_isi : rIsi K vs H Q = ∃ (x c : V) (t u : Value) (b : Bool), vs = [x, c] ∧ ClsV c u ∧ TyX K H x t ∧ PySem.W.kitOne K t u = some b ∧ Q (.bl b) H := rfl
theorem u_gfld : gFld K ta f v σ H QS = ta σ H fun x H1 => ∃ a C dx fs, x = .ref a ∧ H1 a = some (.ins C dx fs) ∧ Cls K C ∧ NoAttr K C f ∧ fs.length < 1000 ∧ QS σ (upd H1 a (.ins C dx (putF f v fs))) := rfl
theorem u_iEnumL : iEnum K tA σ H RI = tA σ H fun vs H1 => ∃ a xs, vs = [.ref a] ∧ SqL K H1 a xs ∧ RI (Ite K a) H1 := rfl
theorem u_iEnumT : iEnumT K tA σ H RI = tA σ H fun vs H1 => ∃ a xs, vs = [.ref a] ∧ SqT K H1 a xs ∧ RI (IteT K a) H1 := rfl
theorem u_iZipLT : iZipLT K tA σ H RI = tA σ H fun vs H1 => ∃ a b xs ys, vs = [.ref a, .ref b] ∧ SqL K H1 a xs ∧ SqT K H1 b ys ∧ RI (IzLT K a b) H1 := rfl
theorem u_iZipA : RZ.iZipA K tA σ H RI = tA σ H fun vs H1 => ∃ a b xs ys, vs = [.ref a, .ref b] ∧ ((SqL K H1 a xs ∧ SqL K H1 b ys ∧ RI (Itz K a b) H1) ∨ (SqT K H1 a xs ∧ SqT K H1 b ys ∧ RI (RZ.ItzT K a b) H1)) := rfl
theorem u_removeS : rRemoveS x vs H Q = ∃ (l : Addr) (ns : List Str) (k : Str), x = .ref l ∧ vs = [.str k] ∧ H l = some (.lst (ns.map V.str)) ∧ k ∈ ns ∧ Q .non (upd H l (.lst ((ns.erase k).map V.str))) := rfl
theorem u_disp : tDisp trs σ H Q = ∀ p, H p = none → tPairs trs σ (upd H p (.dK [])) fun ps H2 => H2 p = some (.dK []) ∧ ∃ kvs : List (Key × V), ps = kvs.map (fun kv => (kV kv.1, kv.2)) ∧ kvs.length ≤ 15 ∧ Q (.ref p) (upd H2 p (.dK (mergeK [] kvs))) := rfl
theorem u_pairs0 : tPairs [] σ H QP = QP [] H := rfl
theorem u_pairs : tPairs ((ta, tb) :: trs) σ H QP = ta σ H fun x H1 => tb σ H1 fun y H2 => tPairs trs σ H2 fun ps H3 => QP ((x, y) :: ps) H3 := rfl
/-- list(zip(..)), kept whole -/
def LzC (K : PySem.W.Frag) (a b : Addr) (xs ys : List V) (Q : VK) (H1 : Hp) : Prop := ∀ q, H1 q = none → ∃ W : Nat → List V → Hp → Prop, W 0 [] (upd H1 q (.lst [])) ∧
  (∀ i acc H, W i acc H → SqL K H a xs ∧ SqL K H b ys ∧ H q = some (.lst acc) ∧ acc.length < sizeLine) ∧
  (∀ i acc H T x y, W i acc H → xs[i]? = some x → ys[i]? = some y → H T = none → W (i + 1) (acc ++ [.ref T]) (upd (upd H T (.tup [x, y])) q (.lst (acc ++ [.ref T])))) ∧ ∀ acc H, W (min xs.length ys.length) acc H → Q (.ref q) H
theorem u_listZip : tListZip K tA σ H Q = tA σ H fun vs H1 => ∃ a b xs ys, vs = [.ref a, .ref b] ∧ SqL K H1 a xs ∧ SqL K H1 b ys ∧ LzC K a b xs ys Q H1 := rfl
end
theorem u_sz0 : ([] : List V).length ≤ sizeLine ↔ True := iff_true_intro (by decide)
section
variable {a1 a2 a3 a4 a5 a6 a7 a8 a9 a10 a11 a12 a13 a14 a15 a16 : V}
theorem u_sz1 : [a1].length ≤ sizeLine ↔ True := iff_true_intro (by show 1 ≤ sizeLine; decide)
theorem u_sz2 : [a1, a2].length ≤ sizeLine ↔ True := iff_true_intro (by show 2 ≤ sizeLine; decide)
theorem u_sz3 : [a1, a2, a3].length ≤ sizeLine ↔ True := iff_true_intro (by show 3 ≤ sizeLine; decide)
theorem u_sz4 : [a1, a2, a3, a4].length ≤ sizeLine ↔ True := iff_true_intro (by show 4 ≤ sizeLine; decide)
theorem u_sz5 : [a1, a2, a3, a4, a5].length ≤ sizeLine ↔ True := iff_true_intro (by show 5 ≤ sizeLine; decide)
theorem u_sz6 : [a1, a2, a3, a4, a5, a6].length ≤ sizeLine ↔ True := iff_true_intro (by show 6 ≤ sizeLine; decide)
theorem u_sz7 : [a1, a2, a3, a4, a5, a6, a7].length ≤ sizeLine ↔ True := iff_true_intro (by show 7 ≤ sizeLine; decide)
theorem u_sz8 : [a1, a2, a3, a4, a5, a6, a7, a8].length ≤ sizeLine ↔ True := iff_true_intro (by show 8 ≤ sizeLine; decide)
theorem u_sz9 : [a1, a2, a3, a4, a5, a6, a7, a8, a9].length ≤ sizeLine ↔ True := iff_true_intro (by show 9 ≤ sizeLine; decide)
theorem u_sz10 : [a1, a2, a3, a4, a5, a6, a7, a8, a9, a10].length ≤ sizeLine ↔ True := iff_true_intro (by show 10 ≤ sizeLine; decide)
theorem u_sz11 : [a1, a2, a3, a4, a5, a6, a7, a8, a9, a10, a11].length ≤ sizeLine ↔ True := iff_true_intro (by show 11 ≤ sizeLine; decide)
theorem u_sz12 : [a1, a2, a3, a4, a5, a6, a7, a8, a9, a10, a11, a12].length ≤ sizeLine ↔ True := iff_true_intro (by show 12 ≤ sizeLine; decide)
theorem u_sz13 : [a1, a2, a3, a4, a5, a6, a7, a8, a9, a10, a11, a12, a13].length ≤ sizeLine ↔ True := iff_true_intro (by show 13 ≤ sizeLine; decide)
theorem u_sz14 : [a1, a2, a3, a4, a5, a6, a7, a8, a9, a10, a11, a12, a13, a14].length ≤ sizeLine ↔ True := iff_true_intro (by show 14 ≤ sizeLine; decide)
theorem u_sz15 : [a1, a2, a3, a4, a5, a6, a7, a8, a9, a10, a11, a12, a13, a14, a15].length ≤ sizeLine ↔ True := iff_true_intro (by show 15 ≤ sizeLine; decide)
theorem u_sz16 : [a1, a2, a3, a4, a5, a6, a7, a8, a9, a10, a11, a12, a13, a14, a15, a16].length ≤ sizeLine ↔ True := iff_true_intro (by show 16 ≤ sizeLine; decide)
end
section
variable {s t : Str} {i j : Int} {b c : Bool}
theorem u_scSS : scal (.str s) (.str t) = true ↔ True := iff_true_intro rfl
theorem u_scII : scal (.int i) (.int j) = true ↔ True := iff_true_intro rfl
theorem u_scBB : scal (.bl b) (.bl c) = true ↔ True := iff_true_intro rfl
theorem u_scNN : scal .non .non = true ↔ True := iff_true_intro rfl
theorem u_scSI : scal (.str s) (.int j) = true ↔ True := iff_true_intro rfl
theorem u_scIS : scal (.int i) (.str t) = true ↔ True := iff_true_intro rfl
theorem u_flS : flatV (.str s) = true ↔ True := iff_true_intro rfl
theorem u_flI : flatV (.int i) = true ↔ True := iff_true_intro rfl
end
theorem u_vN {n : Nat} : vN n = .int (n : Int) := rfl
theorem u_lstRg {te : L2.St → Hp → (Int → Int → Hp → Prop) → Prop} {σ : L2.St} {H : Hp} {Q : VK} : tLstRg te σ H Q = te σ H fun a b H1 => RgOk a b ∧ ∀ q, H1 q = none → Q (.ref q) (upd H1 q (.lst (rgV a b))) := rfl
theorem u_rg1 {ta : TE} {σ : L2.St} {H : Hp} {Q : Int → Int → Hp → Prop} : tRg1 ta σ H Q = ta σ H fun x H1 => ∃ n, x = .int n ∧ Q 0 n H1 := rfl
/-! ## readings with a name -/
def rTupOf (K : PySem.W.Frag) : List V → Hp → VK → Prop := fun xs H Q => ∃ p ys, xs = [.ref p] ∧ ((SqL K H p ys ∧ ∀ l, H l = none → Q (.ref l) (upd H l (.tup ys))) ∨ (SqT K H p ys ∧ Q (.ref p) H))
theorem call_tuple_ofN {X : Cx} : CallR X (.type "tuple") (rTupOf X.K) := call_tuple_of
theorem u_tupOf {K : PySem.W.Frag} {vs : List V} {H : Hp} {Q : VK} : rTupOf K vs H Q = ∃ p ys, vs = [.ref p] ∧ ((SqL K H p ys ∧ ∀ l, H l = none → Q (.ref l) (upd H l (.tup ys))) ∨ (SqT K H p ys ∧ Q (.ref p) H)) := rfl
def rTIndex (K : PySem.W.Frag) : V → List V → Hp → VK → Prop := fun x xs H Q => ∃ p, ∃ ys : List Str, ∃ z j, x = .ref p ∧ xs = [.str z] ∧ SqT K H p (ys.map V.str) ∧ ys[j]? = some z ∧ (∀ m, m < j → ys[m]? ≠ some z) ∧ Q (.int (j : Nat)) H
theorem mt_tup_indexN {X : Cx} : MtR X "tuple.index" (rTIndex X.K) := mt_tup_index
theorem u_tIndex {K : PySem.W.Frag} {x : V} {vs : List V} {H : Hp} {Q : VK} : rTIndex K x vs H Q = ∃ p, ∃ ys : List Str, ∃ z j, x = .ref p ∧ vs = [.str z] ∧ SqT K H p (ys.map V.str) ∧ ys[j]? = some z ∧ (∀ m, m < j → ys[m]? ≠ some z) ∧ Q (.int (j : Nat)) H := rfl
/-! ## flat values -/
theorem flat_strs : ∀ ns : List Str, (ns.map V.str).all flatV = true
  | [] => rfl
  | n :: ns => by
    rw [List.map_cons, List.all_cons, flat_strs ns] <;> rfl
theorem flat_ints : ∀ ns : List Int, (ns.map V.int).all flatV = true
  | [] => rfl
  | n :: ns => by
    rw [List.map_cons, List.all_cons, flat_ints ns] <;> rfl
theorem flat_nats (ns : List Nat) : (ns.map vN).all flatV = true := by
  rw [List.all_eq_true]
  intro v hv
  obtain ⟨n, _, rfl⟩ := List.mem_map.mp hv
  rfl
theorem inV_strs (x : Str) : ∀ ns : List Str, inV (.str x) (ns.map V.str) = decide (x ∈ ns)
  | [] => rfl
  | n :: ns => by
    have ih := inV_strs x ns
    unfold inV at ih ⊢
    rw [List.map_cons, List.any_cons, ih]
    show (n == x || decide (x ∈ ns)) = _
    by_cases h : n = x
    · subst h
      simp
    · have h' : ¬ x = n := fun z => h z.symm
      simp [h, h']
theorem inV_nats (x : Nat) : ∀ ns : List Nat, inV (vN x) (ns.map vN) = decide (x ∈ ns)
  | [] => rfl
  | n :: ns => by
    have ih := inV_nats x ns
    unfold inV at ih ⊢
    rw [List.map_cons, List.any_cons, ih]
    show ((n : Int) == (x : Int) || decide (x ∈ ns)) = _
    by_cases h : n = x
    · subst h
      simp
    · have h' : ¬ x = n := fun z => h z.symm
      have h2 : ¬ (n : Int) = (x : Int) := fun z => h (by omega)
      simp [h', h2]
/-- the first place of a text -/
theorem idx_str {x : Str} : ∀ {ns : List Str}, x ∈ ns → (ns.map V.str)[ns.idxOf x]? = some (.str x) ∧ ∀ (m : Nat) (z' : V), m < ns.idxOf x → (ns.map V.str)[m]? = some z' → eqV z' (.str x) = false
  | [], h => absurd h (by simp)
  | n :: ns, h => by
    by_cases e : n = x
    · subst e
      rw [List.idxOf_cons_self]
      exact ⟨rfl, fun m z' hm => absurd hm (Nat.not_lt_zero _)⟩
    · have hx : x ∈ ns := (List.mem_cons.mp h).resolve_left fun z => e z.symm
      rw [List.idxOf_cons, show (n == x) = false by simpa using e, cond_false]
      obtain ⟨h1, h2⟩ := idx_str hx
      refine ⟨h1, fun m z' hm hz => ?_⟩
      cases m with
      | zero =>
        cases (Option.some.inj hz)
        show (n == x) = false
        simpa using e
      | succ m => exact h2 m z' (by omega) hz
theorem idx_nat {x : Nat} : ∀ {ns : List Nat}, x ∈ ns → (ns.map vN)[ns.idxOf x]? = some (vN x) ∧ ∀ (m : Nat) (z' : V), m < ns.idxOf x → (ns.map vN)[m]? = some z' → eqV z' (vN x) = false
  | [], h => absurd h (by simp)
  | n :: ns, h => by
    by_cases e : n = x
    · subst e
      rw [List.idxOf_cons_self]
      exact ⟨rfl, fun m z' hm => absurd hm (Nat.not_lt_zero _)⟩
    · have hx : x ∈ ns := (List.mem_cons.mp h).resolve_left fun z => e z.symm
      rw [List.idxOf_cons, show (n == x) = false by simpa using e, cond_false]
      obtain ⟨h1, h2⟩ := idx_nat hx
      refine ⟨h1, fun m z' hm hz => ?_⟩
      cases m with
      | zero =>
        cases (Option.some.inj hz)
        show ((n : Int) == (x : Int)) = false
        simp
        omega
      | succ m => exact h2 m z' (by omega) hz
theorem AtL.nats {D : Hp} {vs : List V} {ns : List Nat} : AtL D vs (ns.map iN) ↔ vs = ns.map vN := by
  have h := AtL.ints (D := D) (vs := vs) (ns := ns.map fun n : Nat => (n : Int))
  rw [List.map_map, List.map_map] at h
  exact h
theorem nats_of (ns : List Nat) : ns.map vN = (ns.map fun n : Nat => (n : Int)).map V.int := by
  rw [List.map_map] <;> rfl
/-! ## the shape of data that is compared -/
theorem shaped_list {ds : List PyData} (h : ∀ d ∈ ds, d.canLay0 = true ∧ d.depth ≤ 20) : SeqAt.shaped (.list ds) = true := by
  have h1 : PyData.canLayAll0 ds = true ∧ PyData.depthAll ds ≤ 20 := by
    induction ds with
    | nil => exact ⟨by simp [PyData.canLayAll0], by simp [PyData.depthAll]⟩
    | cons d ds ih =>
      obtain ⟨i1, i2⟩ := ih fun e he => h e (List.mem_cons_of_mem _ he)
      obtain ⟨j1, j2⟩ := h d List.mem_cons_self
      refine ⟨by simp [PyData.canLayAll0, i1, j1], ?_⟩
      simp only [PyData.depthAll]
      omega
  unfold SeqAt.shaped
  rw [Bool.and_eq_true]
  refine ⟨by simp only [PyData.canLay0]; exact h1.1, decide_eq_true ?_⟩
  simp only [PyData.depth]
  omega
theorem eqv_nil (ds : List PyData) : PyData.eqv (.list ds) (.list []) = ds.isEmpty := by
  cases ds <;> simp [PyData.eqv, PyData.eqvAll]
theorem shaped_strs {ns : List Str} (h : ∀ n ∈ ns, PyData.strOk n = true) : SeqAt.shaped (.list (ns.map .str)) = true := shaped_list fun d hd => by
  obtain ⟨n, hn, rfl⟩ := List.mem_map.mp hd
  exact ⟨by simp only [PyData.canLay0]; exact h n hn, by simp [PyData.depth]⟩
theorem depth_nats : ∀ t : List Nat, PyData.depthAll (t.map iN) = 0
  | [] => by simp [PyData.depthAll]
  | n :: t => by
    simp only [List.map_cons, PyData.depthAll, depth_nats t, iN, PyData.depth] <;> rfl
theorem lay_nats : ∀ t : List Nat, PyData.canLayAll0 (t.map iN) = true
  | [] => by simp [PyData.canLayAll0]
  | n :: t => by simp [PyData.canLayAll0, lay_nats t, iN, PyData.canLay0]
theorem shaped_trips (ts : List (List Nat)) : SeqAt.shaped (.list (ts.map tup1)) = true := shaped_list fun d hd => by
  obtain ⟨t, _, rfl⟩ := List.mem_map.mp hd
  refine ⟨by simp only [tup1, PyData.canLay0]; exact lay_nats t, ?_⟩
  simp only [tup1, PyData.depth, depth_nats]
  omega
theorem shaped_nil : SeqAt.shaped (.list []) = true := by decide
/-! ### text N0 -/
/-! ### the names -/
def base14 : List Str := ["a", "b", "c1", "door", "hall", "yard", "cafe", "gate", "x", "zz9", "eightsig", "outs", "inn", "noth"]
def base2 : List Str := ["ask1", "p0"]
def namesK (k : Nat) : List Str := base14 ++ base2 ++ (List.range k).map fun i => ("q" : Str) ++ num i
/-- the codes of a name -/
def base14C : List (List Nat) := [[97], [98], [99, 49], [100, 111, 111, 114], [104, 97, 108, 108], [121, 97, 114, 100], [99, 97, 102, 101], [103, 97, 116, 101], [120], [122, 122, 57], [101, 105, 103, 104, 116, 115, 105, 103], [111, 117, 116, 115], [105, 110, 110], [110, 111, 116, 104]]
def base2C : List (List Nat) := [[97, 115, 107, 49], [112, 48]]
def qC : List (List Nat) := [[113, 48], [113, 49], [113, 50], [113, 51], [113, 52], [113, 53], [113, 54], [113, 55], [113, 56], [113, 57], [113, 49, 48], [113, 49, 49], [113, 49, 50], [113, 49, 51], [113, 49, 52], [113, 49, 53]]
def namesC : List (List Nat) := base14C ++ base2C ++ qC
def kwsC : List (List Nat) := kws.map fun x => x.cps.toList
theorem kws_codes : kwsC = [[97, 108, 111, 110, 103], [97, 115, 107], [98, 111, 116, 104], [102, 111, 108, 108, 111, 119], [102, 111, 108, 108, 111, 119, 101, 114, 115], [105, 110], [107, 110, 111, 119, 110], [108, 101, 97, 115, 116], [109, 111, 115, 116], [110, 111, 116], [111, 117, 116], [112, 108, 97, 99, 101, 115], [114, 111, 97, 100], [115, 97, 121], [115, 117, 114, 101], [116, 111, 117, 99, 104]] := by decide +kernel
theorem names16C : (namesK 16).map (fun x => x.cps.toList) = namesC := by
  have h1 : base14.map (fun x => x.cps.toList) = base14C := by decide +kernel
  have h2 : base2.map (fun x => x.cps.toList) = base2C := by decide +kernel
  have h3 : ((List.range 16).map fun i => ("q" : Str) ++ num i).map (fun x => x.cps.toList) = qC := by
    rw [List.map_map]
    have : ((fun x : Str => x.cps.toList) ∘ fun i => ("q" : Str) ++ num i) = fun i => [113] ++ TL.numL i := by
      funext i
      show (("q" : Str) ++ num i).cps.toList = _
      have e : (("q" : Str) ++ num i).cps.toList = ("q" : Str).cps.toList ++ (num i).cps.toList := TL.tl_append _ _
      rw [e, show ("q" : Str).cps.toList = [113] by decide +kernel]
      exact congrArg _ (TL.tl_num i)
    rw [this]
    decide +kernel
  unfold namesK
  rw [List.map_append, List.map_append, h1, h2, h3] <;> rfl
def NmC (l : List Nat) : Bool := (match l with
  | c :: cs => letter c && cs.all fun b => letter b || figure b
  | [] => false) && decide (l.length ≤ 8)
theorem names16N : namesC.all NmC = true ∧ namesC.Nodup ∧ ∀ l ∈ namesC, l ∉ kwsC := by
  rw [kws_codes]
  decide +kernel
theorem names16 : (∀ x ∈ namesK 16, Nm x) ∧ (namesK 16).Nodup := by
  obtain ⟨h1, h2, h3⟩ := names16N
  rw [← names16C] at h1 h2 h3
  refine ⟨fun x hx => ?_, ?_⟩
  · have hm : x.cps.toList ∈ (namesK 16).map fun x => x.cps.toList := List.mem_map_of_mem hx
    have h4 := List.all_eq_true.mp h1 _ hm
    unfold NmC at h4
    rw [Bool.and_eq_true] at h4
    refine ⟨?_, by have := of_decide_eq_true h4.2; rw [TL.len_tl x]; exact this, fun z => h3 _ hm (List.mem_map_of_mem z)⟩
    cases hc : x.cps.toList with
    | nil => rw [hc] at h4; cases h4.1
    | cons c cs =>
      rw [hc, Bool.and_eq_true] at h4
      exact ⟨c, cs, rfl, h4.1.1, List.all_eq_true.mp h4.1.2⟩
  · exact List.Pairwise.of_map (fun x : Str => x.cps.toList) (fun a b hab e => hab (congrArg (fun x : Str => x.cps.toList) e)) h2
theorem namesK_sub {k : Nat} (h : k ≤ 16) : (namesK k).Sublist (namesK 16) := by
  refine List.Sublist.append (List.Sublist.refl _) (List.Sublist.map _ ?_)
  have e : (List.range 16).take k = List.range k := by rw [List.take_range, Nat.min_eq_left h]
  rw [← e]
  exact List.take_sublist _ _
/-! ### text N1 -/
/-! ## the weight of a trip on its way -/
def cnt (es : List (Nat × Nat)) (v : Nat) : Nat := es.countP fun e => decide (v ≤ e.1)
def hdOf (es : List (Nat × Nat)) (t : List Nat) : Nat := match t.getLast? with
  | some l => (es.getD l (0, 0)).2
  | none => 0
def wt (es : List (Nat × Nat)) (t : List Nat) : Nat := 2 ^ cnt es (hdOf es t)
theorem cnt_split (es : List (Nat × Nat)) (v : Nat) : cnt es v = es.countP (fun e => decide (e.1 = v)) + cnt es (v + 1) := by
  induction es with
  | nil => rfl
  | cons e es ih =>
    unfold cnt at ih ⊢
    rw [List.countP_cons, List.countP_cons, List.countP_cons, ih]
    by_cases h1 : e.1 = v
    · rw [if_pos (by simp; omega), if_pos (by simp; omega), if_neg (by simp; omega)]
      omega
    · by_cases h2 : v ≤ e.1
      · rw [if_pos (by simp; omega), if_neg (by simp; omega), if_pos (by simp; omega)]
        omega
      · rw [if_neg (by simp; omega), if_neg (by simp; omega), if_neg (by simp; omega)]
        omega
theorem cnt_mono (es : List (Nat × Nat)) {u v : Nat} (h : u ≤ v) : cnt es v ≤ cnt es u := by
  unfold cnt
  refine List.countP_mono_left fun e _ he => ?_
  simp only [decide_eq_true_eq] at he ⊢
  omega
theorem hdOf_snoc {es : List (Nat × Nat)} {t : List Nat} {i : Nat} {e : Nat × Nat} (h : es[i]? = some e) : hdOf es (t ++ [i]) = e.2 := by
  unfold hdOf
  rw [List.getLast?_append, List.getLast?_singleton]
  show (es.getD i (0, 0)).2 = _
  rw [List.getD_eq_getElem?_getD, h] <;> rfl
/-- the ways on from v -/
def onF (v : Nat) (t : List Nat) : (Nat × Nat) × Nat → Option (List Nat) := fun z => if z.1.1 = v then some (t ++ [z.2]) else none
theorem on_sum (B v : Nat) (w : List Nat → Nat) (t : List Nat) : ∀ L : List ((Nat × Nat) × Nat), (∀ z ∈ L, z.1.1 = v → w (t ++ [z.2]) ≤ B) → ((L.filterMap (onF v t)).map w).sum ≤ (L.map (·.1)).countP (fun e => decide (e.1 = v)) * B
  | [], _ => by simp
  | z :: L, h => by
    have ih := on_sum B v w t L fun z' hz => h z' (List.mem_cons_of_mem _ hz)
    rw [List.map_cons, List.countP_cons]
    by_cases hc : z.1.1 = v
    · rw [List.filterMap_cons_some (show onF v t z = some (t ++ [z.2]) from if_pos hc), List.map_cons, List.sum_cons, if_pos (by simpa using hc), Nat.add_mul, Nat.one_mul]
      have := h z List.mem_cons_self hc
      omega
    · rw [List.filterMap_cons_none (show onF v t z = none from if_neg hc), if_neg (by simpa using hc)]
      exact ih
theorem two_pow_gt (c k : Nat) : c * 2 ^ k + 1 ≤ 2 ^ (c + k) := by
  have h1 : c + 1 ≤ 2 ^ c := Nat.lt_two_pow_self
  have h2 : 1 ≤ 2 ^ k := Nat.one_le_two_pow
  rw [Nat.pow_add]
  calc c * 2 ^ k + 1 ≤ c * 2 ^ k + 2 ^ k := by omega
    _ = (c + 1) * 2 ^ k := by rw [Nat.add_mul, Nat.one_mul]
    _ ≤ 2 ^ c * 2 ^ k := Nat.mul_le_mul_right _ h1
theorem on_wt {es : List (Nat × Nat)} (he : ∀ e ∈ es, e.1 < e.2) (v : Nat) (t : List Nat) : ((es.zipIdx.filterMap (onF v t)).map (wt es)).sum + 1 ≤ 2 ^ cnt es v := by
  have h := on_sum (2 ^ cnt es (v + 1)) v (wt es) t es.zipIdx fun z hz hv => by
    obtain ⟨m, hm⟩ := List.mem_iff_getElem?.mp hz
    rw [List.getElem?_zipIdx, Option.map_eq_some_iff] at hm
    obtain ⟨e, hem, rfl⟩ := hm
    unfold wt
    rw [hdOf_snoc (e := e) (by simpa using hem)]
    have := he e (List.mem_of_getElem? hem)
    have hv : e.1 = v := hv
    exact Nat.pow_le_pow_right (by decide) (cnt_mono es (by omega))
  rw [show es.zipIdx.map (·.1) = es from by simp] at h
  rw [cnt_split]
  exact Nat.le_trans (by omega) (two_pow_gt _ _)
theorem on_mem {es : List (Nat × Nat)} {v : Nat} {t x : List Nat} (h : x ∈ es.zipIdx.filterMap (onF v t)) : ∃ i e, es[i]? = some e ∧ e.1 = v ∧ x = t ++ [i] := by
  obtain ⟨z, hz, hx⟩ := List.mem_filterMap.mp h
  obtain ⟨m, hm⟩ := List.mem_iff_getElem?.mp hz
  rw [List.getElem?_zipIdx, Option.map_eq_some_iff] at hm
  obtain ⟨e, hem, rfl⟩ := hm
  unfold onF at hx
  by_cases hc : e.1 = v
  · rw [if_pos hc] at hx
    exact ⟨0 + m, e, by simpa using hem, hc, (Option.some.inj hx).symm⟩
  · rw [if_neg hc] at hx
    cases hx
theorem sum_len (w : List Nat → Nat) (hw : ∀ t, 1 ≤ w t) : ∀ ts : List (List Nat), ts.length ≤ (ts.map w).sum
  | [] => Nat.zero_le _
  | t :: ts => by
    have := sum_len w hw ts
    have := hw t
    rw [List.length_cons, List.map_cons, List.sum_cons]
    omega
theorem wt_pos (es : List (Nat × Nat)) (t : List Nat) : 1 ≤ wt es t := Nat.one_le_two_pow
theorem cnt_le (es : List (Nat × Nat)) (v : Nat) : cnt es v ≤ es.length := List.countP_le_length
theorem Path.len {es : List (Nat × Nat)} (he : ∀ e ∈ es, e.1 < e.2) : ∀ {u v : Nat} {t : List Nat}, Path es u t v → u + t.length ≤ v
  | _, _, _, .nil _ => Nat.le_refl _
  | _, _, _, .cons h p => by
    have h1 := he _ (List.mem_of_getElem? h)
    have h2 := p.len he
    rw [List.length_cons]
    simp only at h1
    omega
/-! ### text D0 -/
/-! ## what a comprehension walks, as data -/
structure Src {α : Type} (I : Hp → List (Addr × HO) → Hp → Prop) (D : Hp) (fr : List (Addr × HO)) (J : It) (as : List α) (enc : α → PyData) : Prop where
  ex : ∃ (G : Hp → Prop) (Y : Nat → Hp → V → Hp → Prop), Walk J as.length G Y ∧ (∀ D' H' q, Same D D' → I D' (q :: fr) H' → G H') ∧
    ∀ i D' q H1 x H2, Same D D' → I D' (q :: fr) H1 → Y i H1 x H2 → i < as.length → ∃ D2 e, Same D' D2 ∧ I D2 (q :: fr) H2 ∧ as[i]? = some e ∧ At D2 x (enc e)
section
variable {α β : Type} {I : Hp → List (Addr × HO) → Hp → Prop} {D H : Hp} {fr : List (Addr × HO)} {K : PySem.W.Frag} {a : Addr} {xs : List V} {as : List α} {enc : α → PyData}
theorem src_list (gI : Ground I) (ha : In D fr a (.lst xs)) (hx : AtL D xs (as.map enc)) : Src I D fr (Itl K a) as enc := by
  have hl : as.length = xs.length := by rw [hx.len, List.length_map]
  refine ⟨_, _, by rw [hl]; exact walk_list (xs := xs), fun D' H' q s h => SqL.of (gI.in_ h ((ha.up s).more)), ?_⟩
  rintro i D' q H1 x H2 s h ⟨rfl, hy⟩ hi
  obtain ⟨d, hd, hat⟩ := hx.getV hy
  rw [List.getElem?_map, Option.map_eq_some_iff] at hd
  obtain ⟨e, he, rfl⟩ := hd
  exact ⟨D', e, same_rfl, h, he, hat.up s⟩
theorem src_tup (gI : Ground I) (ha : In D fr a (.tup xs)) (hx : AtL D xs (as.map enc)) : Src I D fr (Itt K a) as enc := by
  have hl : as.length = xs.length := by rw [hx.len, List.length_map]
  refine ⟨_, _, by rw [hl]; exact walk_tup (xs := xs), fun D' H' q s h => SqT.of (gI.in_ h ((ha.up s).more)), ?_⟩
  rintro i D' q H1 x H2 s h ⟨rfl, hy⟩ hi
  obtain ⟨d, hd, hat⟩ := hx.getV hy
  rw [List.getElem?_map, Option.map_eq_some_iff] at hd
  obtain ⟨e, he, rfl⟩ := hd
  exact ⟨D', e, same_rfl, h, he, hat.up s⟩
theorem src_range {n : Nat} {lo : Int} : Src I D fr (Itr lo n) (List.range n) (fun i => .int (lo + i)) := by
  refine ⟨_, _, by rw [List.length_range]; exact walk_range, fun D' H' q s h => trivial, ?_⟩
  rintro i D' q H1 x H2 s h ⟨rfl, rfl⟩ hi
  rw [List.length_range] at hi
  exact ⟨D', i, same_rfl, h, by simp [hi], .int _⟩
theorem src_enumT (gI : Ground I) (ha : In D fr a (.tup xs)) (hx : AtL D xs (as.map enc)) : Src I D fr (IteT K a) as.zipIdx (fun p => .tuple [iN p.2, enc p.1]) := by
  have hl : as.zipIdx.length = xs.length := by rw [hx.len, List.length_map, List.length_zipIdx]
  refine ⟨_, _, by rw [hl]; exact walk_enumT (xs := xs), fun D' H' q s h => SqT.of (gI.in_ h ((ha.up s).more)), ?_⟩
  rintro i D' q H1 x H2 s h ⟨T, u, v, rfl, hT, rfl, hu, hy⟩ hi
  obtain rfl := Option.some.inj hu
  obtain ⟨d, hd, hat⟩ := hx.getV hy
  rw [List.getElem?_map, Option.map_eq_some_iff] at hd
  obtain ⟨e, he, rfl⟩ := hd
  obtain ⟨h2, s2⟩ := gI.new (.tup [.int (i : Nat), v]) h hT
  refine ⟨_, (e, i), s2, h2, by rw [List.getElem?_zipIdx, he]; simp, .tup upd_same (.cons (.int _) (.cons ((hat.up s).up s2) .nil))⟩
variable {g : TG} {tt : TT} {te : TE} {vs : List Nat} {σ : L2.St} {J : It} {Q : VK}
/-- a comprehension over data; O i bs: what may have come together when i are seen -/
theorem gathO (gI : Ground I) (src : Src I D fr J as enc) (h : I D fr H) (out : β → PyData) (O : Nat → List β → Prop) (h0 : O 0 []) (hl : ∀ i bs, i ≤ as.length → O i bs → bs.length ≤ i) (hn : as.length < 100000)
    (hs : ∀ (i : Nat) (x : V) (e : α) (D' : Hp) (q : Addr × HO) (H1 : Hp) (bs : List β), as[i]? = some e → At D' x (enc e) → O i bs → Same D D' → I D' (q :: fr) H1 → ∀ (Ny : VK) (Nn : Hp → Prop),
      (∀ D'' H3 y b, Same D' D'' → I D'' (q :: fr) H3 → At D'' y (out b) → O (i + 1) (bs ++ [b]) → Ny y H3) → (∀ D'' H3, Same D' D'' → I D'' (q :: fr) H3 → O (i + 1) bs → Nn H3) → TurnV g tt te vs σ x H1 Ny Nn)
    (hd : ∀ D' H' q ws bs, Same D D' → I D' ((q, .lst ws) :: fr) H' → AtL D' ws (bs.map out) → O as.length bs → Q (.ref q) H') : LoopC J g tt te vs σ Q H := by
  obtain ⟨G, Y, w, hG, hY⟩ := src.ex
  refine gath gI w h hn (fun i ds => ∃ bs, ds = bs.map out ∧ O i bs) ⟨[], rfl, h0⟩ ?_ hG ?_ ?_
  · rintro i ds hi ⟨bs, rfl, ho⟩
    rw [List.length_map]
    exact hl i bs hi ho
  · rintro i x D' q H1 H2 ds hi ⟨bs, rfl, ho⟩ s h1 hy Ny Nn hyes hno
    obtain ⟨D2, e, s2, h2, he, hat⟩ := hY i D' q H1 x H2 s h1 hy hi
    refine hs i x e D2 q H2 bs he hat ho (same_tr s s2) h2 Ny Nn ?_ ?_
    · intro D'' H3 y b s3 h3 hb ho2
      exact hyes D'' H3 y (out b) (same_tr s2 s3) h3 hb ⟨bs ++ [b], by simp, ho2⟩
    · intro D'' H3 s3 h3 ho2
      exact hno D'' H3 (same_tr s2 s3) h3 ⟨bs, rfl, ho2⟩
  · rintro D' H' q ws ds s h1 ha ⟨bs, rfl, ho⟩
    exact hd D' H' q ws bs s h1 ha ho
theorem filterMap_le {f : α → Option β} : ∀ {as : List α}, (as.filterMap f).length ≤ as.length := List.length_filterMap_le _ _
/-- .. that takes f e of each e, where there is one -/
theorem gathFm (gI : Ground I) (src : Src I D fr J as enc) (h : I D fr H) (out : β → PyData) (f : α → Option β) (hn : as.length < 100000)
    (hs : ∀ (i : Nat) (x : V) (e : α) (D' : Hp) (q : Addr × HO) (H1 : Hp), as[i]? = some e → At D' x (enc e) → Same D D' → I D' (q :: fr) H1 → ∀ (Ny : VK) (Nn : Hp → Prop),
      (∀ D'' H3 y b, Same D' D'' → I D'' (q :: fr) H3 → At D'' y (out b) → f e = some b → Ny y H3) → (∀ D'' H3, Same D' D'' → I D'' (q :: fr) H3 → f e = none → Nn H3) → TurnV g tt te vs σ x H1 Ny Nn)
    (hd : ∀ D' H' q ws, Same D D' → I D' ((q, .lst ws) :: fr) H' → AtL D' ws ((as.filterMap f).map out) → Q (.ref q) H') : LoopC J g tt te vs σ Q H := by
  refine gathO gI src h out (fun i bs => bs = (as.take i).filterMap f) (by simp) ?_ hn ?_ ?_
  · rintro i bs hi rfl
    exact Nat.le_trans (List.length_filterMap_le _ _) (by rw [List.length_take]; omega)
  · rintro i x e D' q H1 bs he hat rfl s h1 Ny Nn hyes hno
    have et : as.take (i + 1) = as.take i ++ [e] := by rw [List.take_add_one, he]; rfl
    refine hs i x e D' q H1 he hat s h1 Ny Nn ?_ ?_
    · intro D'' H3 y b s3 h3 hb hf
      exact hyes D'' H3 y b s3 h3 hb (by rw [et, List.filterMap_append]; simp [hf])
    · intro D'' H3 s3 h3 hf
      exact hno D'' H3 s3 h3 (by rw [et, List.filterMap_append]; simp [hf])
  · rintro D' H' q ws bs s h1 ha rfl
    rw [List.take_length] at ha
    exact hd D' H' q ws s h1 ha
/-- .. its list stays from then on as it is -/
theorem gathF (gI : Ground I) (src : Src I D fr J as enc) (h : I D fr H) (out : β → PyData) (f : α → Option β) (hn : as.length < 100000)
    (hs : ∀ (i : Nat) (x : V) (e : α) (D' : Hp) (q : Addr × HO) (H1 : Hp), as[i]? = some e → At D' x (enc e) → Same D D' → I D' (q :: fr) H1 → ∀ (Ny : VK) (Nn : Hp → Prop),
      (∀ D'' H3 y b, Same D' D'' → I D'' (q :: fr) H3 → At D'' y (out b) → f e = some b → Ny y H3) → (∀ D'' H3, Same D' D'' → I D'' (q :: fr) H3 → f e = none → Nn H3) → TurnV g tt te vs σ x H1 Ny Nn)
    (hd : ∀ D' H' v, Same D D' → I D' fr H' → At D' v (.list ((as.filterMap f).map out)) → Q v H') : LoopC J g tt te vs σ Q H :=
  gathFm gI src h out f hn hs fun D' H' q ws s h1 ha => by
    obtain ⟨h5, e5⟩ := gI.fix h1
    exact hd _ _ _ (same_tr s e5) h5 (.lst upd_same (ha.up e5))
/-- .. g of each -/
theorem gathM (gI : Ground I) (src : Src I D fr J as enc) (h : I D fr H) (out : β → PyData) (f : α → β) (hn : as.length < 100000)
    (hs : ∀ (i : Nat) (x : V) (e : α) (D' : Hp) (q : Addr × HO) (H1 : Hp), as[i]? = some e → At D' x (enc e) → Same D D' → I D' (q :: fr) H1 → ∀ (Ny : VK) (Nn : Hp → Prop),
      (∀ D'' H3 y, Same D' D'' → I D'' (q :: fr) H3 → At D'' y (out (f e)) → Ny y H3) → TurnV g tt te vs σ x H1 Ny Nn)
    (hd : ∀ D' H' v, Same D D' → I D' fr H' → At D' v (.list ((as.map f).map out)) → Q v H') : LoopC J g tt te vs σ Q H := by
  refine gathF gI src h out (fun e => some (f e)) hn (fun i x e D' q H1 he hx s h1 Ny Nn hy hno => hs i x e D' q H1 he hx s h1 Ny Nn fun D'' H3 y s3 h3 hb => hy D'' H3 y (f e) s3 h3 hb rfl) ?_
  rw [List.filterMap_eq_map' (f := f)]
  exact hd
/-- .. enc' of each -/
theorem gathE (gI : Ground I) (src : Src I D fr J as enc) (h : I D fr H) (out : α → PyData) (hn : as.length < 100000)
    (hs : ∀ (i : Nat) (x : V) (e : α) (D' : Hp) (q : Addr × HO) (H1 : Hp), as[i]? = some e → At D' x (enc e) → Same D D' → I D' (q :: fr) H1 → ∀ (Ny : VK) (Nn : Hp → Prop),
      (∀ D'' H3 y, Same D' D'' → I D'' (q :: fr) H3 → At D'' y (out e) → Ny y H3) → TurnV g tt te vs σ x H1 Ny Nn)
    (hd : ∀ D' H' v, Same D D' → I D' fr H' → At D' v (.list (as.map out)) → Q v H') : LoopC J g tt te vs σ Q H := by
  refine gathM gI src h out id hn hs ?_
  rw [List.map_id]
  exact hd
theorem filterMap_if {pr : α → Bool} : ∀ {as : List α}, as.filterMap (fun e => if pr e = true then some e else none) = as.filter pr
  | [] => rfl
  | e :: as => by
    have ih := filterMap_if (pr := pr) (as := as)
    cases h : pr e
    · rw [List.filterMap_cons_none (by simp [h]), List.filter_cons_of_neg (by simp [h]), ih]
    · rw [List.filterMap_cons_some (by simp [h]; rfl), List.filter_cons_of_pos h, ih]
/-- .. those that pass -/
theorem gathPm (gI : Ground I) (src : Src I D fr J as enc) (h : I D fr H) (pr : α → Bool) (hn : as.length < 100000)
    (hs : ∀ (i : Nat) (x : V) (e : α) (D' : Hp) (q : Addr × HO) (H1 : Hp), as[i]? = some e → At D' x (enc e) → Same D D' → I D' (q :: fr) H1 → ∀ (Ny : VK) (Nn : Hp → Prop),
      (∀ D'' H3, Same D' D'' → I D'' (q :: fr) H3 → pr e = true → Ny x H3) → (∀ D'' H3, Same D' D'' → I D'' (q :: fr) H3 → pr e = false → Nn H3) → TurnV g tt te vs σ x H1 Ny Nn)
    (hd : ∀ D' H' q ws, Same D D' → I D' ((q, .lst ws) :: fr) H' → AtL D' ws ((as.filter pr).map enc) → Q (.ref q) H') : LoopC J g tt te vs σ Q H := by
  refine gathFm gI src h enc (fun e => if pr e = true then some e else none) hn (fun i x e D' q H1 he hx s h1 Ny Nn hy hno => hs i x e D' q H1 he hx s h1 Ny Nn (fun D'' H3 s3 h3 hb => hy D'' H3 x e s3 h3 (hx.up s3) (if_pos hb)) fun D'' H3 s3 h3 hb => hno D'' H3 s3 h3 (if_neg (by simp [hb]))) ?_
  rw [filterMap_if]
  exact hd
theorem gathP (gI : Ground I) (src : Src I D fr J as enc) (h : I D fr H) (pr : α → Bool) (hn : as.length < 100000)
    (hs : ∀ (i : Nat) (x : V) (e : α) (D' : Hp) (q : Addr × HO) (H1 : Hp), as[i]? = some e → At D' x (enc e) → Same D D' → I D' (q :: fr) H1 → ∀ (Ny : VK) (Nn : Hp → Prop),
      (∀ D'' H3, Same D' D'' → I D'' (q :: fr) H3 → pr e = true → Ny x H3) → (∀ D'' H3, Same D' D'' → I D'' (q :: fr) H3 → pr e = false → Nn H3) → TurnV g tt te vs σ x H1 Ny Nn)
    (hd : ∀ D' H' v, Same D D' → I D' fr H' → At D' v (.list ((as.filter pr).map enc)) → Q v H') : LoopC J g tt te vs σ Q H :=
  gathPm gI src h pr hn hs fun D' H' q ws s h1 ha => by
    obtain ⟨h5, e5⟩ := gI.fix h1
    exact hd _ _ _ (same_tr s e5) h5 (.lst upd_same (ha.up e5))
end
theorem ne_emp {α : Type} {l : List α} (h : l ≠ []) : (!l.isEmpty) = true := by cases l <;> simp_all
theorem decF {p : Prop} [Decidable p] (h : ¬ p) : decide p = false := decide_eq_false h
theorem decT {p : Prop} [Decidable p] (h : p) : decide p = true := decide_eq_true h
theorem eqV_str (x : Str) : eqV (.str x) (.str x) = true := by
  show (x == x) = true
  simp
theorem eqV_nat (x : Nat) : eqV (vN x) (vN x) = true := by
  show ((x : Int) == (x : Int)) = true
  simp
/-! ## cutting a reading where its value is known -/
theorem tv_of {te : TE} {σ : L2.St} {H : Hp} {Q : VK} (v : V) (h : ∀ Q' : VK, Q' v H → te σ H Q') (k : Q v H) : te σ H Q := h Q k
theorem tv_cut {te : TE} {σ : L2.St} {H : Hp} {Q : VK} (R : V → Hp → Prop) (h : ∀ Q' : VK, (∀ v H', R v H' → Q' v H') → te σ H Q') (k : ∀ v H', R v H' → Q v H') : te σ H Q := h Q k
theorem tt_of {tt : TT} {σ : L2.St} {H : Hp} {Q : Bool → Hp → Prop} (b : Bool) (h : ∀ Q' : Bool → Hp → Prop, Q' b H → tt σ H Q') (k : Q b H) : tt σ H Q := h Q k
theorem tt_cut {tt : TT} {σ : L2.St} {H : Hp} {Q : Bool → Hp → Prop} (R : Bool → Hp → Prop) (h : ∀ Q' : Bool → Hp → Prop, (∀ b H', R b H' → Q' b H') → tt σ H Q') (k : ∀ b H', R b H' → Q b H') : tt σ H Q := h Q k
theorem atI_last {α : Type} {l : List α} {c : α} (h : l.getLast? = some c) : atI l (-1) = some c := by
  have hne : l ≠ [] := fun z => by rw [z] at h; cases h
  have hl := List.length_pos_iff.mpr hne
  unfold atI
  have e : ixN l.length (-1) = some (l.length - 1) := by
    unfold ixN
    simp
    omega
  rw [e]
  show l[l.length - 1]? = some c
  rw [← List.getLast?_eq_getElem?]
  exact h
theorem atI_head {α : Type} {l : List α} {c : α} (h : l.head? = some c) : atI l 0 = some c := by
  cases l with
  | nil => cases h
  | cons a l => cases h; exact atI_of (n := 0) rfl rfl
/-! ### text D1 -/
/-- a statement cut: R, what holds behind it -/
theorem ts_cut {t : TS} {D : Ends} {σ : L2.St} {H : Hp} (R : L2.St → Hp → Prop) (h : ∀ N : L2.St → Hp → Prop, (∀ σ' H', R σ' H' → N σ' H') → t { D with nx := N } σ H) (k : ∀ σ' H', R σ' H' → D.nx σ' H') : t D σ H := h D.nx k
/-! ### text C1 -/
local macro_rules | `(tactic| walk_at "rd") => `(tactic| try simp only [u_turnC, u_for, u_lc, u_iList, u_iTup, u_iRng1, u_iRng2, u_iZip, u_yes, u_wipe0, u_wipe1, List.map_cons, List.map_nil, u_asg, u_drop, u_ret, u_retN, u_if, u_next, u_never, u_par, u_par3, u_sfld, u_sdput, u_gname, u_gtup, u_gcons, u_gnil, u_gsub, u_var, u_c, u_op, u_un, u_cb, u_cons, u_nil, u_tup, u_lst, u_test, u_b, u_not, u_and, u_or, u_andV, u_orV, u_notV, u_ifE,
  u_fld, u_sl, u_part, u_noPart, u_bm, u_bm0, u_call, u_meth, u_make, u_dget, u_din, u_dnotin, u_rI, u_rI0, u_rU, u_ixL, u_ixT, u_ixS, u_eq, u_ne, u_eqD, u_neD, u_in, u_notIn, u_cat, u_catA, u_slL, u_slA, u_slS, u_append, u_extend, u_pop, u_popAt, u_setL, u_sum, u_chain, u_index, u_lstRg, u_rg1, u_vN, u_scSS, u_scII, u_scBB, u_scNN, u_scSI, u_scIS, u_flS, u_flI, u_sz0, u_sz1, u_sz2, u_sz3, u_sz4, u_sz5, u_sz6, u_sz7, u_sz8, u_sz9, u_sz10, u_sz11, u_sz12, u_sz13, u_sz14, u_sz15, u_sz16, u_tupOf, u_tIndex, u_sortedI, u_all, u_isi, u_gfld, u_iEnumL, u_iEnumT, u_iZipLT, u_iZipA, u_removeS, u_disp, u_pairs0, u_pairs, u_listZip, u_turnV, u_K, u_K2, u_ite_dec, u_ite_ndec,
  V.int.injEq, V.ref.injEq, V.str.injEq, V.bl.injEq, List.cons.injEq, Option.some.injEq, List.getElem?_cons_zero, List.getElem?_cons_succ, List.set_cons_zero, List.set_cons_succ, List.append_nil, List.nil_append, List.cons_append,
  and_assoc, exists_eq_left', exists_eq_left, exists_eq_right, exists_and_left, exists_and_right, true_and, and_true, reduceCtorEq, false_and, exists_false, false_or, or_false, if_true, if_false, Bool.true_eq_false, Bool.false_eq_true, exists_const])
local macro_rules | `(tactic| walk_at "st") => `(tactic| first | (rw [u_seq]; walk_at "rd") | walk_at "rd" | skip)
local macro_rules | `(tactic| walk_at "ix") => `(tactic| (refine ⟨_, SqL.of (by assumption), _, rfl, ?_⟩; try walk_at "rd"))
local macro_rules | `(tactic| walk_at "ux") => `(tactic| (refine ⟨_, SqT.of (by assumption), _, rfl, ?_⟩; try walk_at "rd"))

/-! ## the deal in the heap -/
def key (x : Str) : Key := Sum.inr x
structure DealV (D : Hp) (d : Deal) (vp vr vk va : V) : Prop where
  pl : At D vp (.list (d.places.map .str))
  ro : At D vr (.list (d.roads.map Rd.d))
  kn : At D vk (.list (d.known.map knD))
  as : At D va (.list (d.asks.map As.d))
def dealO (d : Deal) (vp vr vk va : V) : HO := .dK [(key "places", vp), (key "in", .str d.inn), (key "out", .str d.out), (key "roads", vr), (key "known", vk), (key "asks", va)]
def DealAt (D : Hp) (p : Addr) (d : Deal) : Prop := ∃ vp vr vk va, D p = some (dealO d vp vr vk va) ∧ DealV D d vp vr vk va
section
variable {H : Hp} {p : Addr} {d : Deal} {vp vr vk va : V}
theorem dg_places (hp : H p = some (dealO d vp vr vk va)) : DGet H p (.str "places") (some vp) := DGet.k (k := key "places") hp
theorem dg_in (hp : H p = some (dealO d vp vr vk va)) : DGet H p (.str "in") (some (.str d.inn)) := DGet.k (k := key "in") hp
theorem dg_out (hp : H p = some (dealO d vp vr vk va)) : DGet H p (.str "out") (some (.str d.out)) := DGet.k (k := key "out") hp
theorem dg_roads (hp : H p = some (dealO d vp vr vk va)) : DGet H p (.str "roads") (some vr) := DGet.k (k := key "roads") hp
theorem dg_known (hp : H p = some (dealO d vp vr vk va)) : DGet H p (.str "known") (some vk) := DGet.k (k := key "known") hp
theorem dg_asks (hp : H p = some (dealO d vp vr vk va)) : DGet H p (.str "asks") (some va) := DGet.k (k := key "asks") hp
end
theorem ones_emp (n : Str) (lf : List Str) : ∀ {rs : List Rd}, ((rs.filterMap fun r => if (r.hd == n && lf.contains r.ft) = true then some () else none).map fun _ => PyData.int 1).isEmpty = ((rs.map fun r => (r.ft, r.hd)).filter fun e => e.2 == n && lf.contains e.1).isEmpty
  | [] => rfl
  | r :: rs => by
    have ih := ones_emp n lf (rs := rs)
    by_cases h : (r.hd == n && lf.contains r.ft) = true
    · rw [List.filterMap_cons_some (by rw [if_pos h]), List.map_cons, List.map_cons, List.filter_cons_of_pos (p := fun e : Str × Str => e.2 == n && lf.contains e.1) h] <;> rfl
    · rw [List.filterMap_cons_none (by rw [if_neg h]), List.map_cons, List.filter_cons_of_neg (p := fun e : Str × Str => e.2 == n && lf.contains e.1) h]
      exact ih
theorem rd_at {D : Hp} {x : V} {r : Rd} (h : At D x r.d) : ∃ a v5, x = .ref a ∧ D a = some (.tup [.str r.nm, .str r.ft, .str r.hd, vN r.lo, v5]) ∧ At D v5 (oN r.hi) := by
  obtain ⟨a, xs, rfl, ha, hx⟩ := h.tup_is
  cases hx with
  | cons h1 t =>
  cases t with
  | cons h2 t =>
  cases t with
  | cons h3 t =>
  cases t with
  | cons h4 t =>
  cases t with
  | cons h5 t =>
  cases t
  rw [h1.str_is, h2.str_is, h3.str_is, h4.int_is] at ha
  exact ⟨a, _, rfl, ha, h5⟩
def spOrder : Sp := fun vs H Q _ => ∃ (I : Hp → List (Addr × HO) → Hp → Prop) (D : Hp) (fr : List (Addr × HO)) (p : Addr) (d : Deal), Ground I ∧ vs = [.ref p] ∧ I D fr H ∧ DealAt D p d ∧ d.OrdOk ∧
  ∀ (D' H' : Hp) (v : V), Same D D' → I D' fr H' → At D' v (.list (d.order.map .str)) → Q v H'
section
variable {P : Program} {w : World} {K : PySem.W.Frag} {mg : Str → Option Value} {base : Heap}
theorem sc_law_order : FnScope ["_law_deal_here", "_law_found", "_law_left", "_law_free", "_law_name", "_law_road"] ["_law_deal_here"] (defScope s_law_order) := ⟨rfl, rfl, rfl, by decide +kernel, rfl, by decide +kernel, by decide +kernel⟩
theorem c_law_order (T : Txt K mg) : C8.Cal P w K mg base 1 "_law_order" spOrder [] := by
  refine cal_mk T.d_law_order sc_law_order (fun _ _ _ _ _ _ us hl => match us, hl with | [_], _ => rfl) (fun vs H Q E h => ?_) (fun f cdv A outer s H vs Q E hr h => ?_)
  · obtain ⟨I, D, fr, p, d, gI, rfl, _⟩ := h
    rfl
  obtain ⟨I, D, fr, p, d, gI, rfl, h, ⟨vp, vr, vk, va, hp, dv⟩, ok, k⟩ := h
  refine ⟨_, (pss_cons (ps_asg (pe_tup (pa_cons (pe_lst (pa_cons (pe_dget (hu_of hr) (pv 0) pe_str (fun _ _ => rfl)) pa_nil)) (pa_cons (pe_lc (g := _) (tt := (tTest (tOp (rIn K true) _ _))) (te := _) (own := [("_law_name", 4)]) rfl sc_law_order.nd (pi_list (pe_dget (hu_of hr) (pv 0) pe_str (fun _ _ => rfl))) (blkOk_by (by kernel_rfl)) (fun _ _ _ _ _ => (pg_name (i := 4) sc_law_order.nd rfl (.inl rfl))) (fun _ _ _ _ _ => (pts_one (pt_cmpR op_notIn_seq (pv 4) (pe_tup (pa_cons (pe_dget (hu_of hr) (pv 0) pe_str (fun _ _ => rfl)) (pa_cons (pe_dget (hu_of hr) (pv 0) pe_str (fun _ _ => rfl)) pa_nil))) (by rfl)))) (fun _ _ _ _ _ => (pv 4))) pa_nil))) (pg_tup rfl (pgs_cons (pg_name (i := 1) sc_law_order.nd rfl (.inl rfl)) (pgs_cons (pg_name (i := 2) sc_law_order.nd rfl (.inr rfl)) pgs_nil)))) (pss_cons (ps_while PassesOwn.never (pt_cmpR (op_neD hr.units) (pv 2) (pe_lst pa_nil) (nomark _)) (pss_cons (ps_setLc (g := _) (tt := (tTest (tOp (rEqD K) (tLc (iList K _) _ (tAnd (tTest (tOp _ (tOp (rIxT K) _ _) _)) (tTest (tOp (rIn K false) (tOp (rIxT K) _ _) _))) _ _) _))) (te := _) (i := 3) (own := [("_law_name", 4)]) rfl sc_law_order.nd rfl rfl (sw_true rfl rfl rfl (by decide +kernel)) (pi_list (pv 2)) (blkOk_by (by kernel_rfl)) (fun _ _ _ _ _ => (pg_name (i := 4) sc_law_order.nd rfl (.inr rfl))) (fun _ _ _ _ _ => (pts_one (pt_cmpR (op_eqD hr.units) (pe_lc (g := _) (tt := (tAnd (tTest (tOp _ (tOp (rIxT K) _ _) _)) (tTest (tOp (rIn K false) (tOp (rIxT K) _ _) _)))) (te := _) (own := [("_law_road", 5)]) rfl sc_law_order.nd (pi_list (pe_dget (hu_of hr) (pv 0) pe_str (fun _ _ => rfl))) (blkOk_by (by kernel_rfl)) (fun _ _ _ _ _ => (pg_name (i := 5) sc_law_order.nd rfl (.inl rfl))) (fun _ _ _ _ _ => (pts_one (PW.pt (pw_and (pt_cmpR op_eq (pe_ix ix_tup (pv 5) pe_int (fun _ _ => rfl)) (pv 4) (nomark _)) (pw_and1 (pt_cmpR op_in_seq (pe_ix ix_tup (pv 5) pe_int (fun _ _ => rfl)) (pv 2) (by rfl))))))) (fun _ _ _ _ _ => pe_int)) (pe_lst pa_nil) (nomark _)))) (fun _ _ _ _ _ => (pv 4))) (pss_cons (ps_expr (pe_bm PySem.F.plainAttrs_list PySem.F.slot_list_append PySem.F.type_list_append mt_append (pv 1) (pa_cons (pe_ix ix_list (pv 3) pe_int (fun _ _ => rfl)) pa_nil))) (pss_one (ps_expr (pe_bm PySem.F.plainAttrs_list PySem.F.slot_list_remove PySem.F.type_list_remove mt_removeS (pv 2) (pa_cons (pe_ix ix_list (pv 3) pe_int (fun _ _ => rfl)) pa_nil))))))) (pss_one (ps_ret (pe_op op_cat (pv 1) (pe_lst (pa_cons (pe_dget (hu_of hr) (pv 0) pe_str (fun _ _ => rfl)) pa_nil))))))), ?_⟩
  show tSeq _ _ _ [some (.ref p), none, none, none, none, none] H
  have hp0 := gI.same h _ _ hp
  walk_at "st"
  refine ⟨_, dg_in hp0, fun p1 n1 => ?_⟩
  have h1 := gI.put (.lst [.str d.inn]) h n1
  have hp1 := gI.same h1 _ _ hp
  obtain ⟨pa, px, rfl, hpa, hpx⟩ := dv.pl.lst_is
  refine ⟨_, dg_places hp1, pa, rfl, ⟨_, SqL.of (gI.same h1 _ _ hpa)⟩, ?_⟩
  refine gathPm gI (src_list gI (.inl hpa) hpx) h1 (fun n => !(n == d.inn || n == d.out)) (by have := ok.2.1; omega) ?_ ?_
  · intro i x n D1 q H1 he hx s1 h1 Ny Nn hyes hno
    obtain rfl := hx.str_is
    walk_at "rd"
    have hp1 := gI.same h1 _ _ (s1 _ _ hp)
    refine ⟨_, dg_in hp1, _, dg_out hp1, fun p2 n2 => ⟨_, .inr (SqT.of upd_same), rfl, ?_⟩⟩
    have h2 := gI.tmp (.tup [.str d.inn, .str d.out]) h1 n2
    rw [show ([V.str d.inn, V.str d.out]) = [d.inn, d.out].map V.str from rfl] at h2 ⊢
    rw [inV_strs]
    by_cases hc : n = d.inn ∨ n = d.out
    · rw [show decide (n ∈ [d.inn, d.out]) = true by simpa using hc]
      exact hno _ _ same_rfl h2 (by rcases hc with e | e <;> simp [e])
    · rw [show decide (n ∈ [d.inn, d.out]) = false by simpa using hc]
      walk_at "rd"
      exact hyes _ _ same_rfl h2 (by simpa using hc)
  · intro D1 H1 q ws s1 h1 hws
    walk_at "rd"
    intro p2 n2
    refine ⟨_, SqT.of upd_same, rfl, _, _, rfl, _, _, rfl, rfl, ?_⟩
    have h2 := gI.tmp (.tup [.ref p1, .ref q]) h1 n2
    walk_at "st"
    rw [show d.places.filter (fun n => !(n == d.inn || n == d.out)) = leftO d.places d.inn d.out from rfl] at hws
    obtain rfl := AtL.strs.mp hws
    refine loop_w (fun m σ H' => ∃ (D' : Hp) (fo lf : List Str) (x3 x4 x5 : Option V), σ = [some (.ref p), some (.ref p1), some (.ref q), x3, x4, x5] ∧ Same D D' ∧ I D' ((q, .lst (lf.map V.str)) :: (p1, .lst (fo.map V.str)) :: fr) H' ∧ m = lf.length ∧ fo.length + lf.length ≤ 1001 ∧
        (∀ x ∈ lf, x ∈ d.places) ∧ ordGo d.ends lf.length lf fo = ordGo d.ends (leftO d.places d.inn d.out).length (leftO d.places d.inn d.out) [d.inn]) _
      ⟨D1, [d.inn], leftO d.places d.inn d.out, _, _, _, rfl, s1, h2, rfl, ?_, fun x hx => (List.mem_filter.mp hx).1, rfl⟩ ?_
    · have h1 := List.length_filter_le (fun n => !(n == d.inn || n == d.out)) d.places
      have h2 := ok.2.1
      unfold leftO
      rw [List.length_singleton]
      omega
    · rintro m σ H2 ⟨D2, fo, lf, x3, x4, x5, rfl, s2, h2, rfl, hle, hin, ho⟩
      walk_at "rd"
      intro p3 n3
      have hq2 := gI.get 0 h2 rfl
      have h3 := gI.tmp (.lst []) h2 n3
      have hq3 := gI.get 0 h3 rfl
      have hp3 := gI.get 1 h3 rfl
      refine ⟨.list (lf.map .str), .lst (SqL.of hq3) (AtL.dp (D := fun _ => none) (fun _ _ e => by cases e) (AtL.strs.mpr rfl)), .list [], .lst (SqL.of upd_same) .nil, shaped_strs fun n hn => ok.1 n (hin n hn), shaped_nil, ?_⟩
      rw [eqv_nil]
      by_cases hlf : lf = []
      · subst hlf
        refine if_ne (by rfl) ?_
        walk_at "rd"
        refine ⟨_, dg_out (gI.same h3 _ _ (s2 _ _ hp)), fun p4 n4 => ?_⟩
        have h4 := gI.tmp (.lst [.str d.out]) h3 n4
        refine ⟨_, gI.get 1 h4 rfl, _, upd_same, sz (by simp at hle ⊢; omega), fun p5 n5 => ?_⟩
        obtain ⟨h5, s5⟩ := gI.new (.lst (fo.map V.str ++ [.str d.out])) h4 n5
        refine k _ _ _ (same_tr s2 s5) ((gI.drop (gI.drop h5 0) 0)) (.lst upd_same ?_)
        rw [show d.order = fo ++ [d.out] by unfold Deal.order orderF; rw [← ho]; rfl]
        exact AtL.strs.mpr (by simp)
      · refine if_eq (by cases lf with | nil => exact absurd rfl hlf | cons a l => rfl) ?_
        refine stepW fun N hN => ?_
        walk_at "st"
        refine ⟨⟨_, SqL.of hq3⟩, ?_⟩
        refine gathP gI (src_list gI (.inr (List.mem_cons_self)) (AtL.strs.mpr rfl)) h3 (fun n => (d.ends.filter fun e => e.2 == n && lf.contains e.1).isEmpty) (by omega) ?_ ?_
        · intro i x n D4 q4 H4 he hx s4 h4 Ny Nn hyes hno
          obtain rfl := hx.str_is
          obtain ⟨pr, rx, er, hpr, hrx⟩ := dv.ro.lst_is
          subst er
          have sD := same_tr s2 s4
          walk_at "rd"
          refine ⟨_, dg_roads (gI.same h4 _ _ (sD _ _ hp)), _, rfl, ⟨_, SqL.of (gI.same h4 _ _ (sD _ _ hpr))⟩, ?_⟩
          refine gathF gI (src_list gI (.inl (sD _ _ hpr)) (hrx.up sD)) h4 (fun _ => PyData.int 1) (fun r => if (r.hd == n && lf.contains r.ft) = true then some () else none) (by have h3 := ok.2.2.1; rw [Deal.ends, List.length_map] at h3; omega) ?_ ?_
          · intro j y r D5 q5 H5 hr5 hy s5 h5 My Mn myes mno
            obtain ⟨b, v5, rfl, hb, _⟩ := rd_at hy
            have hb5 := gI.same h5 _ _ hb
            walk_at "rd"
            walk_at "ux"
            by_cases hc : r.hd = n
            · rw [if_pos hc]
              refine ⟨_, SqT.of hb5, _, rfl, _, .inl (SqL.of (gI.get 2 h5 rfl)), rfl, flat_strs _, ?_⟩
              rw [inV_strs]
              by_cases hm : r.ft ∈ lf
              · rw [decT hm]
                exact myes _ _ _ _ same_rfl h5 (.int 1) (if_pos (by simp [hc, hm]))
              · rw [decF hm]
                exact mno _ _ same_rfl h5 (if_neg (by simp [hm]))
            · rw [if_neg hc]
              exact mno _ _ same_rfl h5 (if_neg (by simp [hc]))
          · intro D5 H5 v s5 h5 hv
            intro p6 n6
            have h6 := gI.tmp (.lst []) h5 n6
            refine ⟨_, At.dp (gI.same h6) hv, _, .lst (SqL.of upd_same) .nil, ?_, shaped_nil, ?_⟩
            · exact shaped_list fun e he => by
                obtain ⟨_, _, rfl⟩ := List.mem_map.mp he
                decide
            · rw [eqv_nil, show ((d.roads.filterMap fun r => if (r.hd == n && lf.contains r.ft) = true then some () else none).map fun _ => PyData.int 1).isEmpty = (d.ends.filter fun e => e.2 == n && lf.contains e.1).isEmpty from ones_emp _ _]
              cases hb : (d.ends.filter fun e => e.2 == n && lf.contains e.1).isEmpty
              · exact hno _ _ s5 h6 hb
              · exact hyes _ _ s5 h6 hb
        · intro D4 H4 v s4 h4 hv
          walk_at "rd"
          obtain ⟨pv, vx, ev, hpv, hvx⟩ := hv.lst_is
          subst ev
          obtain rfl := AtL.strs.mp hvx
          have hne : freeO d.ends lf ≠ [] := ok.2.2.2 lf hlf hin
          obtain ⟨x, xs, hx⟩ := List.exists_cons_of_ne_nil hne
          have hxl : x ∈ lf := (List.mem_filter.mp (show x ∈ freeO d.ends lf by rw [hx]; simp)).1
          rw [show lf.filter (fun n => (d.ends.filter fun e => e.2 == n && lf.contains e.1).isEmpty) = x :: xs from hx] at hpv
          have hv4 := gI.same h4 _ _ hpv
          walk_at "st"
          refine ⟨.inl ⟨rfl, _, SqL.of (gI.get 1 h4 rfl)⟩, _, SqL.of hv4, _, atI_of (n := 0) rfl rfl, _, gI.get 1 h4 rfl, szl (by rw [List.length_map]; omega), ?_⟩
          have h5 := gI.upd 1 (.lst (fo.map V.str ++ [.str x])) h4 rfl
          walk_at "rd"
          refine ⟨.inl ⟨rfl, _, SqL.of (gI.get 0 h5 rfl)⟩, _, SqL.of (gI.same h5 _ _ hpv), _, atI_of (n := 0) rfl rfl, _, _, rfl, gI.get 0 h5 rfl, hxl, ?_⟩
          have h6 := gI.upd 0 (.lst ((lf.erase x).map V.str)) h5 rfl
          have hll : (lf.erase x).length = lf.length - 1 := List.length_erase_of_mem hxl
          have hlp := List.length_pos_iff.mpr hlf
          refine hN _ _ _ (show (lf.erase x).length < lf.length by omega) ⟨⟨_, _, _, rfl⟩, D4, same_tr s2 s4, fo ++ [x], lf.erase x, ?_, rfl, by rw [List.length_append, List.length_singleton]; omega, fun y hy => hin y (List.mem_of_mem_erase hy), ?_⟩
          · rw [List.map_append]
            exact h6
          · rw [← ho, hll]
            obtain ⟨m, hm⟩ : ∃ m, lf.length = m + 1 := ⟨lf.length - 1, by omega⟩
            rw [hm, Nat.add_sub_cancel]
            show _ = (match freeO d.ends lf with | [] => fo | z :: _ => ordGo d.ends m (lf.erase z) (fo ++ [z]))
            rw [hx]
end
/-! ### text D2 -/
/-! ## a tuple made of a list, known to the object: its methods -/
def FzT (D : Hp) (c : Addr) (xs : List V) : Prop := ∃ ob : Obj, D c = some (.frz ob (.tup xs)) ∧ ob.cls = .type "tuple" ∧ ob.dict = none
theorem FzT.up {D D' : Hp} {c : Addr} {xs : List V} (h : FzT D c xs) (s : Same D D') : FzT D' c xs := by
  obtain ⟨ob, e, r⟩ := h
  exact ⟨ob, s _ _ e, r⟩
theorem FzT.sq {K : PySem.W.Frag} {D : Hp} {c : Addr} {xs : List V} (h : FzT D c xs) : SqT K D c xs := by
  obtain ⟨ob, e, _⟩ := h
  exact .inl (.inr ⟨ob, e⟩)
def rTupF (K : PySem.W.Frag) : List V → Hp → VK → Prop := fun xs H Q => ∃ p ys, xs = [V.ref p] ∧ SqL K H p ys ∧ ∀ (l : Addr) (ob : Obj), ob.cls = .type "tuple" → ob.dict = none → H l = none → Q (.ref l) (upd H l (.frz ob (.tup ys)))
theorem u_tupF {K : PySem.W.Frag} {vs : List V} {H : Hp} {Q : VK} : rTupF K vs H Q = ∃ p ys, vs = [V.ref p] ∧ SqL K H p ys ∧ ∀ (l : Addr) (ob : Obj), ob.cls = .type "tuple" → ob.dict = none → H l = none → Q (.ref l) (upd H l (.frz ob (.tup ys))) := rfl
section
variable {X : Cx}
theorem call_tuple_fz : CallR X (.type "tuple") (rTupF X.K) := by
  intro pins st σ H xs us Q I rv hh
  obtain ⟨p, ys, rfl, hseq, hq⟩ := hh
  obtain ⟨u, rfl, ru⟩ := vals1 rv
  cases ru
  obtain ⟨its, rits, plain, small⟩ := I.list hseq
  have hlen := rits.length
  refine call_tuple_list plain.isList (fun hp2 keep => ?_) (by rw [List.size_toArray]; omega)
  have J : Inv X pins σ H { st with heap := hp2 } := I.kept (t' := st.toks) keep
  have N := J.laid (a := hp2.objs.size) (o := .frz { cls := .type "tuple", data := .seq its.toArray } (.tup ys)) (t' := st.toks) (h' := hp2.push { cls := .type "tuple", data := .seq its.toArray })
    (fun b z ez => Heap.get?_push_of_some _ ez) (Nat.le_refl _) ⟨Heap.get?_push_size _ rfl, small, its, rits, IsTup.new _ _⟩
  exact ⟨.ref hp2.objs.size, _, N, rfl, hq _ _ rfl rfl (J.hok.fresh (Nat.le_refl _))⟩
/-- a method of such a tuple -/
def tBMF (r : V → List V → Hp → VK → Prop) (to : TE) (t : TA) : TE := fun σ H Q => to σ H fun x H1 => (∃ c xs, x = .ref c ∧ FzT H1 c xs) ∧ t σ H1 fun vs H2 => r x vs H2 Q
theorem u_bmF {r : V → List V → Hp → VK → Prop} {to : TE} {t : TA} {σ : L2.St} {H : Hp} {Q : VK} : tBMF r to t σ H Q = to σ H fun x H1 => (∃ c xs, x = .ref c ∧ FzT H1 c xs) ∧ t σ H1 fun vs H2 => r x vs H2 Q := rfl
variable {o e : Expr} {es : List Expr} {to : TE} {t : TA} {name : Str} {apos cpos : Pos} {id : String} {r : V → List V → Hp → VK → Prop}
theorem pe_bmF (pa : PlainAttrs "tuple") (slot : Slot "tuple" name id) (hty : typeOf (.builtin id) = pure (.type "method_descriptor")) (hm : MtR X id r) (ho : PE X o to) (ha : PA X (e :: es) t)
    (hb : attributeBase o name X.env (eval o X.env) = eval o X.env := by rfl)
    (hf : ((backTo cpos (starEach (e :: es) X.env)).all (fun z => !z.1) && (backToKw cpos (keywordEach [] X.env)).all (fun z => z.1.isSome)
        && decide ((e :: es).length + ([] : List Keyword).length + (if ([] : List Keyword).isEmpty then 0 else 1) < 30)) = true := by rfl)
    (hln : (apos.endLine == cpos.line) = true := by rfl) (hst : starEach (e :: es) X.env = (false, eval e X.env) :: starEach es X.env := by rfl) (hpl : (backTo cpos (starEach es X.env)).any (·.1) = false := by rfl) :
    PE X (.Call (.Attribute o name apos) (e :: es) [] cpos) (tBMF r to t) := by
  refine ⟨fun pins st σ H Q I hh => ?_⟩
  refine wpAny_Call_method_late hb hf hln rfl (thn (ho.run pins st σ H _ I hh) fun v st1 ⟨x, H1, I1, rx, hfz, hq⟩ => ?_)
  obtain ⟨c, xs, rfl, ob, eH, ecls, edict⟩ := hfz
  cases (show v = Value.ref c from rx)
  have eob : st1.heap.get? c = some ob := (I1.hok c _ eH).1
  refine ⟨"tuple", id, pa, slot, hty, ⟨ob, eob, ecls⟩, fun a ea => ?_, ?_⟩
  · cases ea
    exact ⟨ob, eob, edict⟩
  have hA := ha.run cpos pins st1 σ H1 _ I1 hq
  rw [hst] at hA ⊢
  refine Calls.callWith_builtin (by show (false || (backTo cpos (starEach es X.env)).any (fun z => z.1)) = false; rw [hpl] <;> rfl) (Calls.evalArgs_plain ?_)
  exact thn hA fun us st2 ⟨vs, H2, I2, r2, q2⟩ => hm pins st2 σ H2 (.ref c) vs _ us Q I2 rfl r2 q2
end
/-! ## data, read whatever else comes -/
section
variable {K : PySem.W.Frag} {D D' : Hp} {v : V} {d : PyData} {vs : List V} {ds : List PyData} {c : Addr}
def Dq (K : PySem.W.Frag) (D : Hp) (v : V) (d : PyData) : Prop := ∀ H, Same D H → Dp K H v d
def DqL (K : PySem.W.Frag) (D : Hp) (vs : List V) (ds : List PyData) : Prop := ∀ H, Same D H → DpAll K H vs ds
theorem At.dq (h : At D v d) : Dq K D v d := fun _ s => h.dp s
theorem AtL.dq (h : AtL D vs ds) : DqL K D vs ds := fun _ s => h.dp s
theorem Dq.up (h : Dq K D v d) (s : Same D D') : Dq K D' v d := fun H t => h H (same_tr s t)
theorem DqL.nil : DqL K D [] [] := fun _ _ => .nil
theorem DqL.cons (h : Dq K D v d) (t : DqL K D vs ds) : DqL K D (v :: vs) (d :: ds) := fun H s => .cons (h H s) (t H s)
theorem Dq.tup (h : D c = some (.tup vs)) (t : DqL K D vs ds) : Dq K D (.ref c) (.tuple ds) := fun H s => .tup (SqT.of (s _ _ h)) (t H s)
theorem Dq.fz (h : FzT D c vs) (t : DqL K D vs ds) : Dq K D (.ref c) (.tuple ds) := fun H s => .tup (h.up s).sq (t H s)
end
/-! ### text C2 -/
def prD (e : Str × Str) : PyData := .tuple [.str e.1, .str e.2]
def spOrdered : Sp := fun vs H Q _ => ∃ (I : Hp → List (Addr × HO) → Hp → Prop) (D : Hp) (fr : List (Addr × HO)) (pa pt : Addr) (tx : List V) (places : List Str) (inn out : Str) (es : List (Str × Str)), Ground I ∧ vs = [.ref pa, .str inn, .str out, .ref pt] ∧ I D fr H ∧
  In D fr pa (.lst (places.map V.str)) ∧ In D fr pt (.lst tx) ∧ AtL D tx (es.map prD) ∧ OrdOk places es ∧
  ∀ (D' H' : Hp) (c : Addr), Same D D' → I D' fr H' → FzT D' c ((orderF places inn out es).map V.str) → Q (.ref c) H'
theorem pr_at {D : Hp} {x : V} {e : Str × Str} (h : At D x (prD e)) : ∃ a, x = .ref a ∧ D a = some (.tup [.str e.1, .str e.2]) := by
  obtain ⟨a, xs, rfl, ha, hx⟩ := h.tup_is
  cases hx with
  | cons h1 t =>
  cases t with
  | cons h2 t =>
  cases t
  rw [h1.str_is, h2.str_is] at ha
  exact ⟨a, rfl, ha⟩
theorem ones_emp2 (n : Str) (lf : List Str) : ∀ {rs : List (Str × Str)}, ((rs.filterMap fun e => if (e.2 == n && lf.contains e.1) = true then some e.1 else none).map PyData.str).isEmpty = (rs.filter fun e => e.2 == n && lf.contains e.1).isEmpty
  | [] => rfl
  | r :: rs => by
    have ih := ones_emp2 n lf (rs := rs)
    by_cases h : (r.2 == n && lf.contains r.1) = true
    · rw [List.filterMap_cons_some (by rw [if_pos h]), List.map_cons, List.filter_cons_of_pos (p := fun e : Str × Str => e.2 == n && lf.contains e.1) h] <;> rfl
    · rw [List.filterMap_cons_none (by rw [if_neg h]), List.filter_cons_of_neg (p := fun e : Str × Str => e.2 == n && lf.contains e.1) h]
      exact ih
section
variable {P : Program} {w : World} {K : PySem.W.Frag} {mg : Str → Option Value} {base : Heap}
theorem sc_ordered : FnScope ["places", "first", "last", "told", "found", "left", "free", "name", "a", "b"] ["places", "first", "last", "told"] (defScope s_ordered) := ⟨rfl, rfl, rfl, by decide +kernel, rfl, by decide +kernel, by decide +kernel⟩
theorem c_ordered (T : Txt K mg) : C8.Cal P w K mg base 1 "ordered" spOrdered [] := by
  refine cal_mk T.d_ordered sc_ordered (fun _ _ _ _ _ _ us hl => match us, hl with | [_, _, _, _], _ => rfl) (fun vs H Q E h => ?_) (fun f cdv A outer s H vs Q E hr h => ?_)
  · obtain ⟨I, D, fr, pa, pt, tx, places, inn, out, es, gI, rfl, _⟩ := h
    rfl
  obtain ⟨I, D, fr, pa, pt, tx, places, inn, out, es, gI, rfl, h, hpa, hpt, htx, ok, k⟩ := h
  refine ⟨_, (pss_cons (ps_asg (pe_tup (pa_cons (pe_lst (pa_cons (pv 1) pa_nil)) (pa_cons (pe_lc (g := _) (tt := (tTest (tOp (rIn K true) _ _))) (te := _) (own := [("name", 7)]) rfl sc_ordered.nd (pi_list (pv 0)) (blkOk_by (by kernel_rfl)) (fun _ _ _ _ _ => (pg_name (i := 7) sc_ordered.nd rfl (.inl rfl))) (fun _ _ _ _ _ => (pts_one (pt_cmpR op_notIn_seq (pv 7) (pe_tup (pa_cons (pv 1) (pa_cons (pv 2) pa_nil))) (by rfl)))) (fun _ _ _ _ _ => (pv 7))) pa_nil))) (pg_tup rfl (pgs_cons (pg_name (i := 4) sc_ordered.nd rfl (.inl rfl)) (pgs_cons (pg_name (i := 5) sc_ordered.nd rfl (.inr rfl)) pgs_nil)))) (pss_cons (ps_while PassesOwn.never (pt_cmpR (op_neD hr.units) (pv 5) (pe_lst pa_nil) (nomark _)) (pss_cons (ps_setLc (g := _) (tt := (tTest (tOp (rEqD K) (tLc (iList K _) (gTup K 2 _) (tAnd _ (tTest (tOp (rIn K false) _ _))) _ _) _))) (te := _) (i := 6) (own := [("name", 7)]) rfl sc_ordered.nd rfl rfl (sw_true rfl rfl rfl (by decide +kernel)) (pi_list (pv 5)) (blkOk_by (by kernel_rfl)) (fun _ _ _ _ _ => (pg_name (i := 7) sc_ordered.nd rfl (.inr rfl))) (fun _ _ _ _ _ => (pts_one (pt_cmpR (op_eqD hr.units) (pe_lc (g := (gTup K 2 _)) (tt := (tAnd _ (tTest (tOp (rIn K false) _ _)))) (te := _) (own := [("a", 8), ("b", 9)]) rfl sc_ordered.nd (pi_list (pv 3)) (blkOk_by (by kernel_rfl)) (fun _ _ _ _ _ => (pg_tup rfl (pgs_cons (pg_name (i := 8) sc_ordered.nd rfl (.inl rfl)) (pgs_cons (pg_name (i := 9) sc_ordered.nd rfl (.inl rfl)) pgs_nil)))) (fun _ _ _ _ _ => (pts_one (PW.pt (pw_and (pt_cmpR op_eq (pv 9) (pv 7) (nomark _)) (pw_and1 (pt_cmpR op_in_seq (pv 8) (pv 5) (by rfl))))))) (fun _ _ _ _ _ => (pv 8))) (pe_lst pa_nil) (nomark _)))) (fun _ _ _ _ _ => (pv 7))) (pss_cons (ps_expr (pe_bm PySem.F.plainAttrs_list PySem.F.slot_list_append PySem.F.type_list_append mt_append (pv 4) (pa_cons (pe_ix ix_list (pv 6) pe_int (fun _ _ => rfl)) pa_nil))) (pss_one (ps_expr (pe_bm PySem.F.plainAttrs_list PySem.F.slot_list_remove PySem.F.type_list_remove mt_removeS (pv 5) (pa_cons (pe_ix ix_list (pv 6) pe_int (fun _ _ => rfl)) pa_nil))))))) (pss_one (ps_ret (pe_callTy call_tuple_fz (by rfl) T.b_tuple boot_tuple (pa_cons (pe_op op_cat (pv 4) (pe_lst (pa_cons (pv 2) pa_nil))) pa_nil)))))), ?_⟩
  show tSeq _ _ _ [some (.ref pa), some (.str inn), some (.str out), some (.ref pt), none, none, none, none, none, none] H
  walk_at "st"
  intro p1 n1
  have h1 := gI.put (.lst [.str inn]) h n1
  refine ⟨⟨_, SqL.of (gI.in_ h1 hpa.more)⟩, ?_⟩
  refine gathPm gI (enc := PyData.str) (src_list gI hpa.more (AtL.strs.mpr rfl)) h1 (fun n => !(n == inn || n == out)) (by have := ok.2.1; omega) ?_ ?_
  · intro i x n D1 q H1 he hx s1 h1 Ny Nn hyes hno
    obtain rfl := hx.str_is
    walk_at "rd"
    refine fun p2 n2 => ⟨_, .inr (SqT.of upd_same), rfl, ?_⟩
    have h2 := gI.tmp (.tup [.str inn, .str out]) h1 n2
    rw [show ([V.str inn, V.str out]) = [inn, out].map V.str from rfl] at h2 ⊢
    rw [inV_strs]
    by_cases hc : n = inn ∨ n = out
    · rw [show decide (n ∈ [inn, out]) = true by simpa using hc]
      exact hno _ _ same_rfl h2 (by rcases hc with e | e <;> simp [e])
    · rw [show decide (n ∈ [inn, out]) = false by simpa using hc]
      walk_at "rd"
      exact hyes _ _ same_rfl h2 (by simpa using hc)
  · intro D1 H1 q ws s1 h1 hws
    walk_at "rd"
    intro p2 n2
    refine ⟨_, SqT.of upd_same, rfl, _, _, rfl, _, _, rfl, rfl, ?_⟩
    have h2 := gI.tmp (.tup [.ref p1, .ref q]) h1 n2
    walk_at "st"
    rw [show places.filter (fun n => !(n == inn || n == out)) = leftO places inn out from rfl] at hws
    obtain rfl := AtL.strs.mp hws
    refine loop_w (fun m σ H' => ∃ (D' : Hp) (fo lf : List Str) (x3 x4 x5 x6 : Option V), σ = [some (.ref pa), some (.str inn), some (.str out), some (.ref pt), some (.ref p1), some (.ref q), x3, x4, x5, x6] ∧ Same D D' ∧ I D' ((q, .lst (lf.map V.str)) :: (p1, .lst (fo.map V.str)) :: fr) H' ∧ m = lf.length ∧ fo.length + lf.length ≤ 1001 ∧
        (∀ x ∈ lf, x ∈ places) ∧ ordGo es lf.length lf fo = ordGo es (leftO places inn out).length (leftO places inn out) [inn]) _
      ⟨D1, [inn], leftO places inn out, _, _, _, _, rfl, s1, h2, rfl, ?_, fun x hx => (List.mem_filter.mp hx).1, rfl⟩ ?_
    · have h1 := List.length_filter_le (fun n => !(n == inn || n == out)) places
      have h2 := ok.2.1
      unfold leftO
      rw [List.length_singleton]
      omega
    · rintro m σ H2 ⟨D2, fo, lf, x3, x4, x5, x6, rfl, s2, h2, rfl, hle, hin, ho⟩
      walk_at "rd"
      intro p3 n3
      have hq2 := gI.get 0 h2 rfl
      have h3 := gI.tmp (.lst []) h2 n3
      have hq3 := gI.get 0 h3 rfl
      have hp3 := gI.get 1 h3 rfl
      refine ⟨.list (lf.map .str), .lst (SqL.of hq3) (AtL.dp (D := fun _ => none) (fun _ _ e => by cases e) (AtL.strs.mpr rfl)), .list [], .lst (SqL.of upd_same) .nil, shaped_strs fun n hn => ok.1 n (hin n hn), shaped_nil, ?_⟩
      rw [eqv_nil]
      by_cases hlf : lf = []
      · subst hlf
        refine if_ne (by rfl) ?_
        walk_at "rd"
        intro p4 n4
        have h4 := gI.tmp (.lst [.str out]) h3 n4
        refine ⟨_, gI.get 1 h4 rfl, _, upd_same, sz (by simp at hle ⊢; omega), fun p5 n5 => ?_⟩
        have h5 := gI.tmp (.lst (fo.map V.str ++ [.str out])) h4 n5
        refine ⟨_, _, rfl, SqL.of upd_same, fun p6 ob hcl hdi n6 => ?_⟩
        obtain ⟨h6, s6⟩ := gI.new (.frz ob (.tup (fo.map V.str ++ [.str out]))) h5 n6
        refine k _ _ _ (same_tr s2 s6) ((gI.drop (gI.drop h6 0) 0)) ⟨ob, ?_, hcl, hdi⟩
        rw [show orderF places inn out es = fo ++ [out] by unfold orderF; rw [← ho]; rfl, upd_same, List.map_append] <;> rfl
      · refine if_eq (by cases lf with | nil => exact absurd rfl hlf | cons a l => rfl) ?_
        refine stepW fun N hN => ?_
        walk_at "st"
        refine ⟨⟨_, SqL.of hq3⟩, ?_⟩
        refine gathP gI (src_list gI (.inr (List.mem_cons_self)) (AtL.strs.mpr rfl)) h3 (fun n => (es.filter fun e => e.2 == n && lf.contains e.1).isEmpty) (by omega) ?_ ?_
        · intro i x n D4 q4 H4 he hx s4 h4 Ny Nn hyes hno
          obtain rfl := hx.str_is
          have sD := same_tr s2 s4
          have hpt4 : In D4 (q4 :: (q, .lst (lf.map V.str)) :: (p1, .lst (fo.map V.str)) :: fr) pt (.lst tx) := (hpt.up sD).more.more.more
          walk_at "rd"
          refine ⟨⟨_, SqL.of (gI.in_ h4 hpt4)⟩, ?_⟩
          refine gathF gI (src_list gI hpt4 (htx.up sD)) h4 PyData.str (fun e => if (e.2 == n && lf.contains e.1) = true then some e.1 else none) (by have := ok.2.2.1; omega) ?_ ?_
          · intro j y r D5 q5 H5 hr5 hy s5 h5 My Mn myes mno
            obtain ⟨b, rfl, hb⟩ := pr_at hy
            have hb5 := gI.same h5 _ _ hb
            walk_at "rd"
            refine ⟨_, SqT.of hb5, rfl, _, _, rfl, _, _, rfl, rfl, ?_⟩
            walk_at "rd"
            by_cases hc : r.2 = n
            · rw [if_pos hc]
              refine ⟨_, .inl (SqL.of (gI.get 2 h5 rfl)), flat_strs _, ?_⟩
              rw [inV_strs]
              by_cases hm : r.1 ∈ lf
              · rw [decT hm]
                exact myes _ _ _ _ same_rfl h5 (.str _) (if_pos (by simp [hc, hm]))
              · rw [decF hm]
                exact mno _ _ same_rfl h5 (if_neg (by simp [hm]))
            · rw [if_neg hc]
              exact mno _ _ same_rfl h5 (if_neg (by simp [hc]))
          · intro D5 H5 v s5 h5 hv
            intro p6 n6
            have h6 := gI.tmp (.lst []) h5 n6
            refine ⟨_, At.dp (gI.same h6) hv, _, .lst (SqL.of upd_same) .nil, ?_, shaped_nil, ?_⟩
            · refine shaped_strs fun m hm => ?_
              obtain ⟨e, _, he⟩ := List.mem_filterMap.mp hm
              by_cases hc : (e.2 == n && lf.contains e.1) = true
              · rw [if_pos hc] at he
                obtain rfl := Option.some.inj he
                rw [Bool.and_eq_true] at hc
                exact ok.1 _ (hin _ (by simpa using hc.2))
              · rw [if_neg hc] at he
                cases he
            · rw [eqv_nil, ones_emp2]
              cases hb : (es.filter fun e => e.2 == n && lf.contains e.1).isEmpty
              · exact hno _ _ s5 h6 hb
              · exact hyes _ _ s5 h6 hb
        · intro D4 H4 v s4 h4 hv
          walk_at "rd"
          obtain ⟨pv, vx, ev, hpv, hvx⟩ := hv.lst_is
          subst ev
          obtain rfl := AtL.strs.mp hvx
          have hne : freeO es lf ≠ [] := ok.2.2.2 lf hlf hin
          obtain ⟨x, xs, hx⟩ := List.exists_cons_of_ne_nil hne
          have hxl : x ∈ lf := (List.mem_filter.mp (show x ∈ freeO es lf by rw [hx]; simp)).1
          rw [show lf.filter (fun n => (es.filter fun e => e.2 == n && lf.contains e.1).isEmpty) = x :: xs from hx] at hpv
          have hv4 := gI.same h4 _ _ hpv
          walk_at "st"
          refine ⟨.inl ⟨rfl, _, SqL.of (gI.get 1 h4 rfl)⟩, _, SqL.of hv4, _, atI_of (n := 0) rfl rfl, _, gI.get 1 h4 rfl, szl (by rw [List.length_map]; omega), ?_⟩
          have h5 := gI.upd 1 (.lst (fo.map V.str ++ [.str x])) h4 rfl
          walk_at "rd"
          refine ⟨.inl ⟨rfl, _, SqL.of (gI.get 0 h5 rfl)⟩, _, SqL.of (gI.same h5 _ _ hpv), _, atI_of (n := 0) rfl rfl, _, _, rfl, gI.get 0 h5 rfl, hxl, ?_⟩
          have h6 := gI.upd 0 (.lst ((lf.erase x).map V.str)) h5 rfl
          have hll : (lf.erase x).length = lf.length - 1 := List.length_erase_of_mem hxl
          have hlp := List.length_pos_iff.mpr hlf
          refine hN _ _ _ (show (lf.erase x).length < lf.length by omega) ⟨⟨_, _, _, _, rfl⟩, D4, same_tr s2 s4, fo ++ [x], lf.erase x, ?_, rfl, by rw [List.length_append, List.length_singleton]; omega, fun y hy => hin y (List.mem_of_mem_erase hy), ?_⟩
          · rw [List.map_append]
            exact h6
          · rw [← ho, hll]
            obtain ⟨m, hm⟩ : ∃ m, lf.length = m + 1 := ⟨lf.length - 1, by omega⟩
            rw [hm, Nat.add_sub_cancel]
            show _ = (match freeO es lf with | [] => fo | z :: _ => ordGo es m (lf.erase z) (fo ++ [z]))
            rw [hx]
end
/-! ### text C3 -/
def MadeOk (d : Deal) : Prop := d.OrdOk ∧ (∀ r ∈ d.roads, r.ft ∈ d.order ∧ r.hd ∈ d.order) ∧ d.known.length ≤ 1000
def spMade : Sp := fun vs H Q _ => ∃ (I : Hp → List (Addr × HO) → Hp → Prop) (D : Hp) (fr : List (Addr × HO)) (p : Addr) (d : Deal), Ground I ∧ vs = [.ref p] ∧ I D fr H ∧ DealAt D p d ∧ MadeOk d ∧
  ∀ (D' H' : Hp) (v : V), Same D D' → I D' fr H' → At D' v d.book → Q v H'
theorem kn_at {D : Hp} {x : V} {e : Nat × List Nat} (h : At D x (knD e)) : ∃ a b, x = .ref a ∧ D a = some (.tup [vN e.1, .ref b]) ∧ D b = some (.tup (e.2.map vN)) := by
  obtain ⟨a, xs, rfl, ha, hx⟩ := h.tup_is
  cases hx with
  | cons h1 t =>
  cases t with
  | cons h2 t =>
  cases t
  obtain ⟨b, ys, rfl, hb, hy⟩ := h2.tup_is
  rw [h1.int_is] at ha
  rw [AtL.nats.mp hy] at hb
  exact ⟨a, b, rfl, ha, hb⟩
section
variable {P : Program} {w : World} {K : PySem.W.Frag} {mg : Str → Option Value} {base : Heap}
theorem sc_law_made : FnScope ["_law_deal_here", "_law_order_here", "_law_roads", "_law_holes", "_law_known", "_law_names", "_law_name", "_law_foot", "_law_head", "_law_low", "_law_high", "_law_times", "_law_trip", "_law_road"] ["_law_deal_here"] (defScope s_law_made) := ⟨rfl, rfl, rfl, by decide +kernel, rfl, by decide +kernel, by decide +kernel⟩
theorem c_law_made (T : Txt K mg) : C8.Cal P w K mg base 2 "_law_made" spMade [] := by
  have h_law_order : C8.Cal P w K mg base 1 "_law_order" spOrder [] := c_law_order T
  refine cal_mk T.d_law_made sc_law_made (fun _ _ _ _ _ _ us hl => match us, hl with | [_], _ => rfl) (fun vs H Q E h => ?_) (fun f cdv A outer s H vs Q E hr h => ?_)
  · obtain ⟨I, D, fr, p, d, gI, rfl, _⟩ := h
    rfl
  obtain ⟨I, D, fr, p, d, gI, rfl, h, ⟨vp, vr, vk, va, hp, dv⟩, ⟨ok, ok2, ok3⟩, k⟩ := h
  refine ⟨_, (pss_cons (ps_set (i := 1) sc_law_made.nd rfl (Or.inr rfl) (C8.pe_c h_law_order hr (by decide) rfl (pa_cons (pv 0) pa_nil))) (pss_cons (ps_set (i := 2) sc_law_made.nd rfl (Or.inl rfl) (pe_callTy call_tuple_ofN (by rfl) T.b_tuple boot_tuple (pa_cons (pe_lc (g := (gTup K 5 _)) (tt := tYes) (te := (tTup (tCons (tBM K "list" (rIndex K) _ _) (tCons (tBM K "list" (rIndex K) _ _) _)))) (own := [("_law_name", 6), ("_law_foot", 7), ("_law_head", 8), ("_law_low", 9), ("_law_high", 10)]) rfl sc_law_made.nd (pi_list (pe_dget (hu_of hr) (pv 0) pe_str (fun _ _ => rfl))) (blkOk_by (by kernel_rfl)) (fun _ _ _ _ _ => (pg_tup rfl (pgs_cons (pg_name (i := 6) sc_law_made.nd rfl (.inl rfl)) (pgs_cons (pg_name (i := 7) sc_law_made.nd rfl (.inl rfl)) (pgs_cons (pg_name (i := 8) sc_law_made.nd rfl (.inl rfl)) (pgs_cons (pg_name (i := 9) sc_law_made.nd rfl (.inl rfl)) (pgs_cons (pg_name (i := 10) sc_law_made.nd rfl (.inl rfl)) pgs_nil))))))) (fun _ _ _ _ _ => pts_nil) (fun _ _ _ _ _ => (pe_tup (pa_cons (pe_bm PySem.F.plainAttrs_list PySem.F.slot_list_index PySem.F.type_list_index mt_index (pv 1) (pa_cons (pv 7) pa_nil)) (pa_cons (pe_bm PySem.F.plainAttrs_list PySem.F.slot_list_index PySem.F.type_list_index mt_index (pv 1) (pa_cons (pv 8) pa_nil)) pa_nil))))) pa_nil))) (pss_cons (ps_set (i := 3) sc_law_made.nd rfl (Or.inl rfl) (pe_callTy call_tuple_ofN (by rfl) T.b_tuple boot_tuple (pa_cons (pe_lc (g := (gTup K 5 _)) (tt := tYes) (te := _) (own := [("_law_name", 6), ("_law_foot", 7), ("_law_head", 8), ("_law_low", 9), ("_law_high", 10)]) rfl sc_law_made.nd (pi_list (pe_dget (hu_of hr) (pv 0) pe_str (fun _ _ => rfl))) (blkOk_by (by kernel_rfl)) (fun _ _ _ _ _ => (pg_tup rfl (pgs_cons (pg_name (i := 6) sc_law_made.nd rfl (.inl rfl)) (pgs_cons (pg_name (i := 7) sc_law_made.nd rfl (.inl rfl)) (pgs_cons (pg_name (i := 8) sc_law_made.nd rfl (.inl rfl)) (pgs_cons (pg_name (i := 9) sc_law_made.nd rfl (.inl rfl)) (pgs_cons (pg_name (i := 10) sc_law_made.nd rfl (.inl rfl)) pgs_nil))))))) (fun _ _ _ _ _ => pts_nil) (fun _ _ _ _ _ => (pe_tup (pa_cons (pv 9) (pa_cons (pv 10) pa_nil))))) pa_nil))) (pss_cons (ps_set (i := 4) sc_law_made.nd rfl (Or.inl rfl) (pe_callTy call_tuple_ofN (by rfl) T.b_tuple boot_tuple (pa_cons (pe_lc (g := (gTup K 2 _)) (tt := tYes) (te := _) (own := [("_law_times", 11), ("_law_trip", 12)]) rfl sc_law_made.nd (pi_list (pe_dget (hu_of hr) (pv 0) pe_str (fun _ _ => rfl))) (blkOk_by (by kernel_rfl)) (fun _ _ _ _ _ => (pg_tup rfl (pgs_cons (pg_name (i := 11) sc_law_made.nd rfl (.inl rfl)) (pgs_cons (pg_name (i := 12) sc_law_made.nd rfl (.inl rfl)) pgs_nil)))) (fun _ _ _ _ _ => pts_nil) (fun _ _ _ _ _ => (pe_tup (pa_cons (pv 12) (pa_cons (pv 11) pa_nil))))) pa_nil))) (pss_cons (ps_set (i := 5) sc_law_made.nd rfl (Or.inl rfl) (pe_callTy call_tuple_ofN (by rfl) T.b_tuple boot_tuple (pa_cons (pe_lc (g := _) (tt := tYes) (te := (tOp (rIxT K) _ _)) (own := [("_law_road", 13)]) rfl sc_law_made.nd (pi_list (pe_dget (hu_of hr) (pv 0) pe_str (fun _ _ => rfl))) (blkOk_by (by kernel_rfl)) (fun _ _ _ _ _ => (pg_name (i := 13) sc_law_made.nd rfl (.inl rfl))) (fun _ _ _ _ _ => pts_nil) (fun _ _ _ _ _ => (pe_ix ix_tup (pv 13) pe_int (fun _ _ => rfl)))) pa_nil))) (pss_one (ps_ret (pe_tup (pa_cons (pe_callTy call_tuple_ofN (by rfl) T.b_tuple boot_tuple (pa_cons (pv 1) pa_nil)) (pa_cons (pv 5) (pa_cons (pe_tup (pa_cons (pe_callB call_len_seq (by rfl) T.b_len PySem.boot_len (pa_cons (pv 1) pa_nil)) (pa_cons (pv 2) pa_nil))) (pa_cons (pv 3) (pa_cons (pv 4) (pa_cons (pe_callTy call_tuple_ofN (by rfl) T.b_tuple boot_tuple (pa_cons (pe_dget (hu_of hr) (pv 0) pe_str (fun _ _ => rfl)) pa_nil)) pa_nil)))))))))))))), ?_⟩
  show tSeq _ _ _ [some (.ref p), none, none, none, none, none, none, none, none, none, none, none, none, none] H
  have hrl : d.roads.length < 100000 := by
    have := ok.2.2.1
    rw [Deal.ends, List.length_map] at this
    omega
  walk_at "st"
  refine ⟨I, D, fr, p, d, gI, rfl, h, ⟨vp, vr, vk, va, hp, dv⟩, ok, fun D1 H1 v1 s1 h1 hv1 => ?_⟩
  obtain ⟨po, ox, rfl, hpo, hox⟩ := hv1.lst_is
  obtain rfl := AtL.strs.mp hox
  obtain ⟨pr, rx, er, hpr, hrx⟩ := dv.ro.lst_is
  subst er
  obtain ⟨pk, kx, ek, hpk, hkx⟩ := dv.kn.lst_is
  subst ek
  obtain ⟨pas, ax, ea, hpa, hax⟩ := dv.as.lst_is
  subst ea
  walk_at "st"
  refine ⟨_, dg_roads (gI.same h1 _ _ (s1 _ _ hp)), _, rfl, ⟨_, SqL.of (gI.same h1 _ _ (s1 _ _ hpr))⟩, ?_⟩
  refine gathE gI (src_list gI (.inl (s1 _ _ hpr)) (hrx.up s1)) h1 (fun r : Rd => PyData.tuple [iN (d.order.idxOf r.ft), iN (d.order.idxOf r.hd)]) hrl ?_ ?_
  · intro j y r D5 q5 H5 hr5 hy s5 h5 My Mn myes
    obtain ⟨b, v5, rfl, hb, _⟩ := rd_at hy
    have hb5 := gI.same h5 _ _ hb
    obtain ⟨m1, m2⟩ := ok2 r (List.mem_of_getElem? hr5)
    have hpo5 := gI.same h5 _ _ (s5 _ _ hpo)
    walk_at "rd"
    refine ⟨_, SqT.of hb5, rfl, _, _, rfl, _, _, rfl, _, _, rfl, _, _, rfl, _, _, rfl, rfl, ?_⟩
    walk_at "rd"
    refine ⟨.inl ⟨rfl, _, SqL.of hpo5⟩, _, SqL.of hpo5, flat_strs _, _, _, (idx_str m1).1, eqV_str _, (idx_str m1).2, .inl ⟨rfl, _, SqL.of hpo5⟩, _, SqL.of hpo5, flat_strs _, _, _, (idx_str m2).1, eqV_str _, (idx_str m2).2, fun p7 n7 => ?_⟩
    obtain ⟨h7, s7⟩ := gI.new (.tup [vN (d.order.idxOf r.ft), vN (d.order.idxOf r.hd)]) h5 n7
    exact myes _ _ _ s7 h7 (.tup upd_same (.cons (.int _) (.cons (.int _) .nil)))
  intro D2 H2 v2 s2 h2 hv2
  obtain ⟨p2, x2, rfl, hp2, hx2⟩ := hv2.lst_is
  walk_at "rd"
  refine ⟨_, .inl ⟨SqL.of (gI.same h2 _ _ hp2), fun p3 n3 => ?_⟩⟩
  obtain ⟨h3, s3⟩ := gI.new (.tup x2) h2 n3
  have t3 := same_tr s1 (same_tr s2 s3)
  walk_at "st"
  refine ⟨_, dg_roads (gI.same h3 _ _ (t3 _ _ hp)), _, rfl, ⟨_, SqL.of (gI.same h3 _ _ (t3 _ _ hpr))⟩, ?_⟩
  refine gathE gI (src_list gI (.inl (t3 _ _ hpr)) (hrx.up t3)) h3 (fun r : Rd => PyData.tuple [iN r.lo, oN r.hi]) hrl ?_ ?_
  · intro j y r D5 q5 H5 hr5 hy s5 h5 My Mn myes
    obtain ⟨b, v5, rfl, hb, hv5⟩ := rd_at hy
    have hb5 := gI.same h5 _ _ hb
    walk_at "rd"
    refine ⟨_, SqT.of hb5, rfl, _, _, rfl, _, _, rfl, _, _, rfl, _, _, rfl, _, _, rfl, rfl, ?_⟩
    walk_at "rd"
    intro p7 n7
    obtain ⟨h7, s7⟩ := gI.new (.tup [vN r.lo, v5]) h5 n7
    exact myes _ _ _ s7 h7 (.tup upd_same (.cons (.int _) (.cons (hv5.up s7) .nil)))
  intro D4 H4 v4 s4 h4 hv4
  obtain ⟨p4, x4, rfl, hp4, hx4⟩ := hv4.lst_is
  walk_at "rd"
  refine ⟨_, .inl ⟨SqL.of (gI.same h4 _ _ hp4), fun p5 n5 => ?_⟩⟩
  obtain ⟨h5, s5⟩ := gI.new (.tup x4) h4 n5
  have t5 := same_tr t3 (same_tr s4 s5)
  walk_at "st"
  refine ⟨_, dg_known (gI.same h5 _ _ (t5 _ _ hp)), _, rfl, ⟨_, SqL.of (gI.same h5 _ _ (t5 _ _ hpk))⟩, ?_⟩
  refine gathE gI (src_list gI (.inl (t5 _ _ hpk)) (hkx.up t5)) h5 (fun e : Nat × List Nat => PyData.tuple [tup1 e.2, iN e.1]) (by omega) ?_ ?_
  · intro j y r D5 q5 H5 hr5 hy s5 h5 My Mn myes
    obtain ⟨b, c, rfl, hb, hc⟩ := kn_at hy
    have hb5 := gI.same h5 _ _ hb
    walk_at "rd"
    refine ⟨_, SqT.of hb5, rfl, _, _, rfl, _, _, rfl, rfl, ?_⟩
    walk_at "rd"
    intro p7 n7
    obtain ⟨h7, s7⟩ := gI.new (.tup [.ref c, vN r.1]) h5 n7
    exact myes _ _ _ s7 h7 (.tup upd_same (.cons (.tup (s7 _ _ hc) (AtL.nats.mpr rfl)) (.cons (.int _) .nil)))
  intro D6 H6 v6 s6 h6 hv6
  obtain ⟨p6, x6, rfl, hp6, hx6⟩ := hv6.lst_is
  walk_at "rd"
  refine ⟨_, .inl ⟨SqL.of (gI.same h6 _ _ hp6), fun p7 n7 => ?_⟩⟩
  obtain ⟨h7, s7⟩ := gI.new (.tup x6) h6 n7
  have t7 := same_tr t5 (same_tr s6 s7)
  walk_at "st"
  refine ⟨_, dg_roads (gI.same h7 _ _ (t7 _ _ hp)), _, rfl, ⟨_, SqL.of (gI.same h7 _ _ (t7 _ _ hpr))⟩, ?_⟩
  refine gathE gI (src_list gI (.inl (t7 _ _ hpr)) (hrx.up t7)) h7 (fun r : Rd => PyData.str r.nm) hrl ?_ ?_
  · intro j y r D5 q5 H5 hr5 hy s5 h5 My Mn myes
    obtain ⟨b, v5, rfl, hb, hv5⟩ := rd_at hy
    have hb5 := gI.same h5 _ _ hb
    walk_at "rd"
    refine ⟨_, SqT.of hb5, _, rfl, ?_⟩
    exact myes _ _ _ same_rfl h5 (.str _)
  intro D8 H8 v8 s8 h8 hv8
  obtain ⟨p8, x8, rfl, hp8, hx8⟩ := hv8.lst_is
  walk_at "rd"
  refine ⟨_, .inl ⟨SqL.of (gI.same h8 _ _ hp8), fun p9 n9 => ?_⟩⟩
  obtain ⟨h9, s9⟩ := gI.new (.tup x8) h8 n9
  have t9 := same_tr t7 (same_tr s8 s9)
  have u9 : Same D1 _ := same_tr s2 (same_tr s3 (same_tr s4 (same_tr s5 (same_tr s6 (same_tr s7 (same_tr s8 s9))))))
  walk_at "st"
  refine ⟨_, .inl ⟨SqL.of (gI.same h9 _ _ (u9 _ _ hpo)), fun pa na => ?_⟩⟩
  obtain ⟨ha, sa⟩ := gI.new (.tup (d.order.map V.str)) h9 na
  refine ⟨_, .inl (SqL.of (gI.same ha _ _ (sa _ _ (u9 _ _ hpo)))), fun pb nb => ?_⟩
  rw [List.length_map]
  obtain ⟨hb, sb⟩ := gI.new (.tup [vN d.order.length, .ref p3]) ha nb
  have tb := same_tr t9 (same_tr sa sb)
  refine ⟨_, dg_asks (gI.same hb _ _ (tb _ _ hp)), _, rfl, _, .inl ⟨SqL.of (gI.same hb _ _ (tb _ _ hpa)), fun pc nc pd nd => ?_⟩⟩
  obtain ⟨hc, sc⟩ := gI.new (.tup ax) hb nc
  obtain ⟨hd, sd⟩ := gI.new (.tup [.ref pa, .ref p9, .ref pb, .ref p5, .ref p7, .ref pc]) hc nd
  have z9 := same_tr s9 (same_tr sa (same_tr sb (same_tr sc sd)))
  have z7 := same_tr s7 (same_tr s8 z9)
  have z5 := same_tr s5 (same_tr s6 z7)
  have z3 := same_tr s3 (same_tr s4 z5)
  refine k _ _ _ (same_tr t9 (same_tr sa (same_tr sb (same_tr sc sd)))) hd (.tup upd_same (.cons ?_ (.cons ?_ (.cons ?_ (.cons ?_ (.cons ?_ (.cons ?_ .nil)))))))
  · exact .tup (sd _ _ (sc _ _ (sb _ _ upd_same))) (AtL.strs.mpr rfl)
  · exact .tup (sd _ _ (sc _ _ (sb _ _ (sa _ _ upd_same)))) (by rw [Deal.names, List.map_map]; exact hx8.up z9)
  · refine .tup (sd _ _ (sc _ _ upd_same)) (.cons (.int _) (.cons (.tup (same_tr s4 z5 _ _ upd_same) ?_) .nil))
    rw [Deal.ends, endsD, List.map_map]
    exact hx2.up (same_tr s3 (same_tr s4 z5))
  · refine .tup (same_tr s6 z7 _ _ upd_same) ?_
    exact hx4.up (same_tr s5 (same_tr s6 z7))
  · refine .tup (same_tr s8 z9 _ _ upd_same) ?_
    exact hx6.up (same_tr s7 (same_tr s8 z9))
  · exact .tup (sd _ _ upd_same) (hax.up (same_tr tb (same_tr sc sd)))
end
/-! ### text C4 -/
def Qu.Lt (m : Nat) : Qu → Prop
  | .along t => (∀ i ∈ t, i < m) ∧ t.length ≤ 1000
  | .touch t => (∀ i ∈ t, i < m) ∧ t.length ≤ 1000
  | .both a b => a < m ∧ b < m
def Sa.Lt (m : Nat) : Sa → Prop
  | .least n q => n ≤ 10 ^ 30 ∧ q.Lt m
  | .most n q => n ≤ 10 ^ 30 ∧ q.Lt m
  | .follow a b => a < m ∧ b < m
  | .no s => s.Lt m
def As.Lt (m : Nat) : As → Prop
  | .least q => q.Lt m
  | .most q => q.Lt m
  | .followers a => a < m
  | .sure => True
  | .say s => s.Lt m ∧ s.nots ≤ 8
theorem nm_at {names : List Str} {i : Nat} (h : i < names.length) : names[i]? = some (nmAt names i) := by
  unfold nmAt
  rw [List.getD_eq_getElem?_getD, List.getElem?_eq_getElem h] <;> rfl
theorem nmV_at {names : List Str} {i : Nat} (h : i < names.length) : atI (names.map V.str) (i : Int) = some (.str (nmAt names i)) :=
  atI_of rfl (by rw [List.getElem?_map, nm_at h]; rfl)
theorem num_lt {n : Nat} (h : n ≤ 10 ^ 30) : ((n : Nat) : Int).natAbs.log2 < 1920 := by
  rw [Int.natAbs_natCast]
  by_cases h0 : n = 0
  · subst h0
    decide
  · rw [Nat.log2_lt h0]
    exact Nat.lt_of_le_of_lt h (by decide +kernel)
/-- the parts of a question's datum -/
theorem t1_at {D : Hp} {x : V} {t : List Nat} (h : At D x (tup1 t)) : ∃ a, x = .ref a ∧ D a = some (.tup (t.map vN)) := by
  obtain ⟨a, xs, rfl, ha, hx⟩ := h.tup_is
  rw [AtL.nats.mp hx] at ha
  exact ⟨a, rfl, ha⟩
theorem tu2_at {D : Hp} {x : V} {d e : PyData} (h : At D x (.tuple [d, e])) : ∃ a u v, x = .ref a ∧ D a = some (.tup [u, v]) ∧ At D u d ∧ At D v e := by
  obtain ⟨a, xs, rfl, ha, hx⟩ := h.tup_is
  cases hx with
  | cons h1 t =>
  cases t with
  | cons h2 t =>
  cases t
  exact ⟨a, _, _, rfl, ha, h1, h2⟩
theorem tu3_at {D : Hp} {x : V} {d e f : PyData} (h : At D x (.tuple [d, e, f])) : ∃ a u v w, x = .ref a ∧ D a = some (.tup [u, v, w]) ∧ At D u d ∧ At D v e ∧ At D w f := by
  obtain ⟨a, xs, rfl, ha, hx⟩ := h.tup_is
  cases hx with
  | cons h1 t =>
  cases t with
  | cons h2 t =>
  cases t with
  | cons h3 t =>
  cases t
  exact ⟨a, _, _, _, rfl, ha, h1, h2, h3⟩
theorem tu1_at {D : Hp} {x : V} {d : PyData} (h : At D x (.tuple [d])) : ∃ a u, x = .ref a ∧ D a = some (.tup [u]) ∧ At D u d := by
  obtain ⟨a, xs, rfl, ha, hx⟩ := h.tup_is
  cases hx with
  | cons h1 t =>
  cases t
  exact ⟨a, _, rfl, ha, h1⟩
def spQW : Sp := fun vs H Q _ => ∃ (I : Hp → List (Addr × HO) → Hp → Prop) (D : Hp) (fr : List (Addr × HO)) (pn : Addr) (names : List Str) (x : V) (q : Qu), Ground I ∧ vs = [.ref pn, x] ∧ I D fr H ∧ In D fr pn (.lst (names.map V.str)) ∧ At D x q.d ∧ q.Lt names.length ∧
  ∀ (D' H' : Hp) (v : V), Same D D' → I D' fr H' → At D' v (.list ((q.w names).map .str)) → Q v H'
section
variable {P : Program} {w : World} {K : PySem.W.Frag} {mg : Str → Option Value} {base : Heap}
theorem sc_law_question_words : FnScope ["_law_names", "_law_question_here", "_law_road"] ["_law_names", "_law_question_here"] (defScope s_law_question_words) := ⟨rfl, rfl, rfl, by decide +kernel, rfl, by decide +kernel, by decide +kernel⟩
theorem c_law_question_words (T : Txt K mg) : C8.Cal P w K mg base 1 "_law_question_words" spQW [] := by
  refine cal_mk T.d_law_question_words sc_law_question_words (fun _ _ _ _ _ _ us hl => match us, hl with | [_, _], _ => rfl) (fun vs H Q E h => ?_) (fun f cdv A outer s H vs Q E hr h => ?_)
  · obtain ⟨I, D, fr, pn, names, x, q, gI, rfl, _⟩ := h
    rfl
  obtain ⟨I, D, fr, pn, names, x, q, gI, rfl, h, hpn, hx, hlt, k⟩ := h
  refine ⟨_, (pss_cons (ps_if (pt_cmpR op_eq (pe_ix ix_tup (pv 1) pe_int (fun _ _ => rfl)) pe_str (nomark _)) (pss_one (ps_ret (pe_lst (pa_cons pe_str (pa_cons (pe_ix ix_list (pv 0) (pe_ix ix_tup (pv 1) pe_int (fun _ _ => rfl)) (fun _ _ => rfl)) (pa_cons (pe_ix ix_list (pv 0) (pe_ix ix_tup (pv 1) pe_int (fun _ _ => rfl)) (fun _ _ => rfl)) pa_nil)))))) pss_nil) (pss_one (ps_ret (pe_op op_cat (pe_lst (pa_cons (pe_ix ix_tup (pv 1) pe_int (fun _ _ => rfl)) pa_nil)) (pe_lc (g := _) (tt := tYes) (te := (tOp (rIxL K) _ _)) (own := [("_law_road", 2)]) rfl sc_law_question_words.nd (pi_tup (pe_ix ix_tup (pv 1) pe_int (fun _ _ => rfl))) (blkOk_by (by kernel_rfl)) (fun _ _ _ _ _ => (pg_name (i := 2) sc_law_question_words.nd rfl (.inl rfl))) (fun _ _ _ _ _ => pts_nil) (fun _ _ _ _ _ => (pe_ix ix_list (pv 0) (pv 2) (fun _ _ => rfl)))))))), ?_⟩
  show tSeq _ _ _ [some (.ref pn), some x, none] H
  have hk : (∃ a b, q = .both a b) ∨ ∃ (wd : Str) (t : List Nat) (c e : Addr), x = .ref c ∧ D c = some (.tup [.str wd, .ref e]) ∧ D e = some (.tup (t.map vN)) ∧ wd ≠ "both" ∧ q.w names = wd :: t.map (nmAt names) ∧ (∀ i ∈ t, i < names.length) ∧ t.length ≤ 1000 := by
    cases q with
    | both a b => exact .inl ⟨a, b, rfl⟩
    | along t =>
      obtain ⟨c, u, v, rfl, hc, hu, hv⟩ := tu2_at hx
      obtain ⟨e, rfl, he⟩ := t1_at hv
      rw [hu.str_is] at hc
      exact .inr ⟨_, t, c, e, rfl, hc, he, by decide +kernel, rfl, hlt⟩
    | touch t =>
      obtain ⟨c, u, v, rfl, hc, hu, hv⟩ := tu2_at hx
      obtain ⟨e, rfl, he⟩ := t1_at hv
      rw [hu.str_is] at hc
      exact .inr ⟨_, t, c, e, rfl, hc, he, by decide +kernel, rfl, hlt⟩
  rcases hk with ⟨a, b, rfl⟩ | ⟨wd, t, c, e, rfl, hc, he, hne, hw, ht, htl⟩
  · obtain ⟨c, u, v, z, rfl, hc, hu, hv, hz⟩ := tu3_at hx
    rw [hu.str_is, hv.int_is, hz.int_is] at hc
    have hc0 := gI.same h _ _ hc
    have hn0 := gI.in_ h hpn
    walk_at "st"
    refine ⟨_, SqT.of hc0, _, rfl, rfl, ?_⟩
    rw [if_pos rfl]
    refine ⟨_, SqT.of hc0, _, rfl, _, _, rfl, SqL.of hn0, _, nmV_at hlt.1, _, SqT.of hc0, _, rfl, _, _, rfl, SqL.of hn0, _, nmV_at hlt.2, fun p np => ?_⟩
    obtain ⟨h1, s1⟩ := gI.new (.lst [.str "both", .str (nmAt names a), .str (nmAt names b)]) h np
    exact k _ _ _ s1 h1 (.lst upd_same (AtL.strs.mpr rfl))
  · have hc0 := gI.same h _ _ hc
    have he0 := gI.same h _ _ he
    walk_at "st"
    walk_at "ux"
    rw [if_neg hne]
    walk_at "ux"
    intro p np
    obtain ⟨h1, s1⟩ := gI.new (.lst [.str wd]) h np
    have hc1 := gI.same h1 _ _ (s1 _ _ hc)
    walk_at "ux"
    refine ⟨⟨_, SqT.of (gI.same h1 _ _ (s1 _ _ he))⟩, ?_⟩
    refine gathE gI (src_tup (enc := iN) gI (.inl (s1 _ _ he)) (AtL.nats.mpr rfl)) h1 (fun i => .str (nmAt names i)) (by omega) ?_ ?_
    · intro j y i D5 q5 H5 hi hy s5 h5 My Mn myes
      obtain rfl := hy.int_is
      walk_at "rd"
      refine ⟨_, SqL.of (gI.in_ h5 (((hpn.up s1).up s5).more)), _, nmV_at (ht i (List.mem_of_getElem? hi)), myes _ _ _ same_rfl h5 (.str _)⟩
    · intro D2 H2 v s2 h2 hv
      obtain ⟨p2, x2, rfl, hp2, hx2⟩ := hv.lst_is
      walk_at "rd"
      have hx3 : x2 = (t.map (nmAt names)).map V.str := AtL.strs.mp (by rw [List.map_map]; exact hx2)
      subst hx3
      refine ⟨_, gI.same h2 _ _ (s2 _ _ upd_same), _, gI.same h2 _ _ hp2, sz (by simp; omega), fun p3 n3 => ?_⟩
      obtain ⟨h3, s3⟩ := gI.new (.lst ([.str wd] ++ (t.map (nmAt names)).map V.str)) h2 n3
      refine k _ _ _ (same_tr s1 (same_tr s2 s3)) h3 (.lst upd_same ?_)
      rw [hw]
      exact AtL.strs.mpr rfl
end
/-! ### text C6 -/
/-! ## an ask with its roads renumbered -/
inductive MvQ (g : Nat → Nat) : Qu → Qu → Prop
  | along (t : List Nat) : MvQ g (.along t) (.along (t.map g))
  | touch (t u : List Nat) : u.Perm (t.map g) → u.Pairwise (· ≤ ·) → MvQ g (.touch t) (.touch u)
  | both (a b : Nat) : MvQ g (.both a b) (.both (g a) (g b))
inductive MvS (g : Nat → Nat) : Sa → Sa → Prop
  | least (n : Nat) {q q' : Qu} : MvQ g q q' → MvS g (.least n q) (.least n q')
  | most (n : Nat) {q q' : Qu} : MvQ g q q' → MvS g (.most n q) (.most n q')
  | follow (a b : Nat) : MvS g (.follow a b) (.follow (g a) (g b))
  | no {s s' : Sa} : MvS g s s' → MvS g (.no s) (.no s')
inductive MvA (g : Nat → Nat) : As → As → Prop
  | least {q q' : Qu} : MvQ g q q' → MvA g (.least q) (.least q')
  | most {q q' : Qu} : MvQ g q q' → MvA g (.most q) (.most q')
  | followers (a : Nat) : MvA g (.followers a) (.followers (g a))
  | sure : MvA g .sure .sure
  | say {s s' : Sa} : MvS g s s' → MvA g (.say s) (.say s')
inductive Th where
  | tq (q : Qu) | ts (s : Sa) | ta (a : As)
def Th.d : Th → PyData
  | .tq q => q.d
  | .ts s => s.d
  | .ta a => a.d
inductive MvT (g : Nat → Nat) : Th → Th → Prop
  | q {q q' : Qu} : MvQ g q q' → MvT g (.tq q) (.tq q')
  | s {q q' : Sa} : MvS g q q' → MvT g (.ts q) (.ts q')
  | a {q q' : As} : MvA g q q' → MvT g (.ta q) (.ta q')
def Th.Lt (m : Nat) : Th → Prop
  | .tq q => q.Lt m
  | .ts s => s.Lt m
  | .ta a => a.Lt m
def Th.rank : Th → Nat
  | .tq _ => 0
  | .ts s => s.nots + 1
  | .ta (.say s) => s.nots + 2
  | .ta _ => 1
def spMv (n : Nat) : Sp := fun vs H Q _ => ∃ (I : Hp → List (Addr × HO) → Hp → Prop) (D : Hp) (fr : List (Addr × HO)) (po : Addr) (order : List Nat) (x : V) (th : Th), Ground I ∧ vs = [.ref po, x] ∧ I D fr H ∧ In D fr po (.lst (order.map vN)) ∧ At D x th.d ∧ th.Lt order.length ∧ (∀ i, i < order.length → i ∈ order) ∧ th.rank < n ∧
  ∀ (D' H' : Hp) (v : V) (th' : Th), Same D D' → I D' fr H' → MvT (fun i => order.idxOf i) th th' → At D' v th'.d → Q v H'
theorem perm_nat {ns : List Int} {t : List Nat} (h : ns.Perm (t.map fun n : Nat => (n : Int))) : ∃ u : List Nat, ns = u.map (fun n : Nat => (n : Int)) ∧ u.Perm t ∧ (ns.Pairwise (· ≤ ·) → u.Pairwise (· ≤ ·)) := by
  have e : ns = (ns.map Int.toNat).map fun n : Nat => (n : Int) := by
    rw [List.map_map]
    refine (List.map_id' ns).symm.trans (List.map_congr_left fun z hz => ?_)
    obtain ⟨n, _, rfl⟩ := List.mem_map.mp (h.mem_iff.mp hz)
    simp
  refine ⟨ns.map Int.toNat, e, ?_, fun hp => ?_⟩
  · have h2 := h.map Int.toNat
    rw [List.map_map, show (Int.toNat ∘ fun n : Nat => (n : Int)) = id by funext n; simp, List.map_id] at h2
    exact h2
  · rw [List.pairwise_map]
    exact hp.imp fun {a b} hab => by omega
/-- the shapes of a thing -/
theorem th_cases {D : Hp} {x : V} {m : Nat} (g : Nat → Nat) (th : Th) (hx : At D x th.d) (hl : th.Lt m) :
    (∃ (wd : Str) (t : List Nat) (c e : Addr), x = .ref c ∧ D c = some (.tup [.str wd, .ref e]) ∧ D e = some (.tup (t.map vN)) ∧ (wd = "along" ∨ wd = "touch") ∧ (∀ i ∈ t, i < m) ∧ t.length ≤ 1000 ∧
      ∀ u : List Nat, (wd = "along" → u = t.map g) → (wd = "touch" → u.Perm (t.map g) ∧ u.Pairwise (· ≤ ·)) → ∃ th', MvT g th th' ∧ th'.d = .tuple [.str wd, tup1 u]) ∨
    (∃ (wd : Str) (a b : Nat) (c : Addr), x = .ref c ∧ D c = some (.tup [.str wd, vN a, vN b]) ∧ (wd = "both" ∨ wd = "follow") ∧ a < m ∧ b < m ∧ ∃ th', MvT g th th' ∧ th'.d = .tuple [.str wd, iN (g a), iN (g b)]) ∨
    (∃ (a : Nat) (c : Addr), x = .ref c ∧ D c = some (.tup [.str "followers", vN a]) ∧ a < m ∧ th = .ta (.followers a)) ∨
    (∃ c : Addr, x = .ref c ∧ D c = some (.tup [.str "sure"]) ∧ th = .ta .sure) ∨
    (∃ (wd : Str) (pre : List V) (preD : List PyData) (c : Addr) (u : V) (th0 : Th), x = .ref c ∧ D c = some (.tup (.str wd :: (pre ++ [u]))) ∧ At D u th0.d ∧ th0.Lt m ∧ th0.rank < th.rank ∧ AtL D pre preD ∧ (pre = [] ∨ ∃ z, pre = [z]) ∧
      wd ∉ (["touch", "along", "both", "follow", "followers", "sure"] : List Str) ∧ ∀ th1, MvT g th0 th1 → ∃ th', MvT g th th' ∧ th'.d = .tuple (.str wd :: (preD ++ [th1.d]))) := by
  cases th with
  | tq q =>
    cases q with
    | along t =>
      obtain ⟨c, u, v, rfl, hc, hu, hv⟩ := tu2_at (show At D x (.tuple [_, _]) from hx)
      obtain ⟨e, rfl, he⟩ := t1_at hv
      rw [hu.str_is] at hc
      exact .inl ⟨_, t, c, e, rfl, hc, he, .inl rfl, hl.1, hl.2, fun u h1 _ => ⟨.tq (.along u), by rw [h1 rfl]; exact .q (.along t), rfl⟩⟩
    | touch t =>
      obtain ⟨c, u, v, rfl, hc, hu, hv⟩ := tu2_at (show At D x (.tuple [_, _]) from hx)
      obtain ⟨e, rfl, he⟩ := t1_at hv
      rw [hu.str_is] at hc
      exact .inl ⟨_, t, c, e, rfl, hc, he, .inr rfl, hl.1, hl.2, fun u _ h2 => ⟨.tq (.touch u), .q (.touch t u (h2 rfl).1 (h2 rfl).2), rfl⟩⟩
    | both a b =>
      obtain ⟨c, u, v, z, rfl, hc, hu, hv, hz⟩ := tu3_at (show At D x (.tuple [_, _, _]) from hx)
      rw [hu.str_is, hv.int_is, hz.int_is] at hc
      exact .inr (.inl ⟨_, a, b, c, rfl, hc, .inl rfl, hl.1, hl.2, .tq (.both (g a) (g b)), .q (.both a b), rfl⟩)
  | ts s =>
    cases s with
    | least n q =>
      obtain ⟨c, u, v, z, rfl, hc, hu, hv, hz⟩ := tu3_at (show At D x (.tuple [_, _, _]) from hx)
      rw [hu.str_is, hv.int_is] at hc
      exact .inr (.inr (.inr (.inr ⟨_, [vN n], [iN n], c, z, .tq q, rfl, hc, hz, hl.2, Nat.succ_pos _, .cons (.int _) .nil, .inr ⟨_, rfl⟩, by decide +kernel, fun th1 h1 => by
        cases h1 with
        | q h1 => exact ⟨.ts (.least n _), .s (.least n h1), rfl⟩⟩)))
    | most n q =>
      obtain ⟨c, u, v, z, rfl, hc, hu, hv, hz⟩ := tu3_at (show At D x (.tuple [_, _, _]) from hx)
      rw [hu.str_is, hv.int_is] at hc
      exact .inr (.inr (.inr (.inr ⟨_, [vN n], [iN n], c, z, .tq q, rfl, hc, hz, hl.2, Nat.succ_pos _, .cons (.int _) .nil, .inr ⟨_, rfl⟩, by decide +kernel, fun th1 h1 => by
        cases h1 with
        | q h1 => exact ⟨.ts (.most n _), .s (.most n h1), rfl⟩⟩)))
    | follow a b =>
      obtain ⟨c, u, v, z, rfl, hc, hu, hv, hz⟩ := tu3_at (show At D x (.tuple [_, _, _]) from hx)
      rw [hu.str_is, hv.int_is, hz.int_is] at hc
      exact .inr (.inl ⟨_, a, b, c, rfl, hc, .inr rfl, hl.1, hl.2, .ts (.follow (g a) (g b)), .s (.follow a b), rfl⟩)
    | no s =>
      obtain ⟨c, u, v, rfl, hc, hu, hv⟩ := tu2_at (show At D x (.tuple [_, _]) from hx)
      rw [hu.str_is] at hc
      exact .inr (.inr (.inr (.inr ⟨_, [], [], c, v, .ts s, rfl, hc, hv, hl, Nat.lt_succ_self _, .nil, .inl rfl, by decide +kernel, fun th1 h1 => by
        cases h1 with
        | s h1 => exact ⟨.ts (.no _), .s (.no h1), rfl⟩⟩)))
  | ta a =>
    cases a with
    | least q =>
      obtain ⟨c, u, v, rfl, hc, hu, hv⟩ := tu2_at (show At D x (.tuple [_, _]) from hx)
      rw [hu.str_is] at hc
      exact .inr (.inr (.inr (.inr ⟨_, [], [], c, v, .tq q, rfl, hc, hv, hl, Nat.lt_succ_self _, .nil, .inl rfl, by decide +kernel, fun th1 h1 => by
        cases h1 with
        | q h1 => exact ⟨.ta (.least _), .a (.least h1), rfl⟩⟩)))
    | most q =>
      obtain ⟨c, u, v, rfl, hc, hu, hv⟩ := tu2_at (show At D x (.tuple [_, _]) from hx)
      rw [hu.str_is] at hc
      exact .inr (.inr (.inr (.inr ⟨_, [], [], c, v, .tq q, rfl, hc, hv, hl, Nat.lt_succ_self _, .nil, .inl rfl, by decide +kernel, fun th1 h1 => by
        cases h1 with
        | q h1 => exact ⟨.ta (.most _), .a (.most h1), rfl⟩⟩)))
    | followers a =>
      obtain ⟨c, u, v, rfl, hc, hu, hv⟩ := tu2_at (show At D x (.tuple [_, _]) from hx)
      rw [hu.str_is, hv.int_is] at hc
      exact .inr (.inr (.inl ⟨a, c, rfl, hc, hl, rfl⟩))
    | sure =>
      obtain ⟨c, u, rfl, hc, hu⟩ := tu1_at (show At D x (.tuple [_]) from hx)
      rw [hu.str_is] at hc
      exact .inr (.inr (.inr (.inl ⟨c, rfl, hc, rfl⟩)))
    | say s =>
      obtain ⟨c, u, v, rfl, hc, hu, hv⟩ := tu2_at (show At D x (.tuple [_, _]) from hx)
      rw [hu.str_is] at hc
      exact .inr (.inr (.inr (.inr ⟨_, [], [], c, v, .ts s, rfl, hc, hv, hl.1, Nat.lt_succ_self _, .nil, .inl rfl, by decide +kernel, fun th1 h1 => by
        cases h1 with
        | s h1 => exact ⟨.ta (.say _), .a (.say h1), rfl⟩⟩)))
section
variable {P : Program} {w : World} {K : PySem.W.Frag} {mg : Str → Option Value} {base : Heap}
theorem sc_law_moved : FnScope ["_law_order_here", "_law_thing", "_law_row", "_law_spot"] ["_law_order_here", "_law_thing"] (defScope s_law_moved) := ⟨rfl, rfl, rfl, by decide +kernel, rfl, by decide +kernel, by decide +kernel⟩
theorem c_law_moved (T : Txt K mg) : ∀ n, C8.Cal P w K mg base (n + 1) "_law_moved" (spMv n) []
  | 0 => by
    refine cal_mk T.d_law_moved sc_law_moved (fun _ _ _ _ _ _ us hl => match us, hl with | [_, _], _ => rfl) (fun vs H Q E h => ?_) (fun f cdv A outer s H vs Q E hr h => ?_)
    · obtain ⟨I, D, fr, po, order, x, th, gI, rfl, h, hpo, hx, hlt, hin, hn, _⟩ := h
      omega
    · obtain ⟨I, D, fr, po, order, x, th, gI, rfl, h, hpo, hx, hlt, hin, hn, _⟩ := h
      omega
  | n + 1 => by
    have h_law_moved : C8.Cal P w K mg base (n + 1) "_law_moved" (spMv n) [] := c_law_moved T n
    refine cal_mk T.d_law_moved sc_law_moved (fun _ _ _ _ _ _ us hl => match us, hl with | [_, _], _ => rfl) (fun vs H Q E h => ?_) (fun f cdv A outer s H vs Q E hr h => ?_)
    · obtain ⟨I, D, fr, po, order, x, th, gI, rfl, _⟩ := h
      rfl
    obtain ⟨I, D, fr, po, order, x, th, gI, rfl, h, hpo, hx, hlt, hin, hn, k⟩ := h
    refine ⟨_, (pss_cons (ps_if (pt_cmpR op_in_seq (pe_ix ix_tup (pv 1) pe_int (fun _ _ => rfl)) (pe_tup (pa_cons pe_str (pa_cons pe_str pa_nil))) (by rfl)) (pss_cons (ps_setLc (g := _) (tt := tYes) (te := (tBM K "list" (rIndex K) _ _)) (i := 2) (own := [("_law_spot", 3)]) rfl sc_law_moved.nd rfl rfl (sw_true rfl rfl rfl (by decide +kernel)) (pi_tup (pe_ix ix_tup (pv 1) pe_int (fun _ _ => rfl))) (blkOk_by (by kernel_rfl)) (fun _ _ _ _ _ => (pg_name (i := 3) sc_law_moved.nd rfl (.inl rfl))) (fun _ _ _ _ _ => pts_nil) (fun _ _ _ _ _ => (pe_bm PySem.F.plainAttrs_list PySem.F.slot_list_index PySem.F.type_list_index mt_index (pv 0) (pa_cons (pv 3) pa_nil)))) (pss_one (ps_ret (pe_tup (pa_cons (pe_ix ix_tup (pv 1) pe_int (fun _ _ => rfl)) (pa_cons (pe_callTy call_tuple_ofN (by rfl) T.b_tuple boot_tuple (pa_cons (pe_ifExp (pt_cmpR op_eq (pe_ix ix_tup (pv 1) pe_int (fun _ _ => rfl)) pe_str (nomark _)) (pe_callB cr_sortedI (by rfl) T.b_sorted boot_sorted (pa_cons (pv 2) pa_nil)) (pv 2)) pa_nil)) pa_nil)))))) pss_nil) (pss_cons (ps_if (pt_cmpR op_in_seq (pe_ix ix_tup (pv 1) pe_int (fun _ _ => rfl)) (pe_tup (pa_cons pe_str (pa_cons pe_str pa_nil))) (by rfl)) (pss_one (ps_ret (pe_tup (pa_cons (pe_ix ix_tup (pv 1) pe_int (fun _ _ => rfl)) (pa_cons (pe_bm PySem.F.plainAttrs_list PySem.F.slot_list_index PySem.F.type_list_index mt_index (pv 0) (pa_cons (pe_ix ix_tup (pv 1) pe_int (fun _ _ => rfl)) pa_nil)) (pa_cons (pe_bm PySem.F.plainAttrs_list PySem.F.slot_list_index PySem.F.type_list_index mt_index (pv 0) (pa_cons (pe_ix ix_tup (pv 1) pe_int (fun _ _ => rfl)) pa_nil)) pa_nil)))))) pss_nil) (pss_cons (ps_if (pt_cmpR op_eq (pe_ix ix_tup (pv 1) pe_int (fun _ _ => rfl)) pe_str (nomark _)) (pss_one (ps_ret (pe_tup (pa_cons pe_str (pa_cons (pe_bm PySem.F.plainAttrs_list PySem.F.slot_list_index PySem.F.type_list_index mt_index (pv 0) (pa_cons (pe_ix ix_tup (pv 1) pe_int (fun _ _ => rfl)) pa_nil)) pa_nil))))) pss_nil) (pss_cons (ps_if (pt_cmpR op_eq (pe_ix ix_tup (pv 1) pe_int (fun _ _ => rfl)) pe_str (nomark _)) (pss_one (ps_ret (pv 1))) pss_nil) (pss_one (ps_ret (pe_op op_catA (pe_slice sl_tupA (pv 1) po_none (po_some (pe_un un_neg pe_int))) (pe_tup (pa_cons (C8.pe_c h_law_moved hr (by omega) rfl (pa_cons (pv 0) (pa_cons (pe_ix ix_tup (pv 1) (pe_un un_neg pe_int) (fun _ _ => rfl)) pa_nil))) pa_nil))))))))), ?_⟩
    show tSeq _ _ _ [some (.ref po), some x, none, none] H
    have ho0 := gI.in_ h hpo
    rcases th_cases (fun i => order.idxOf i) th hx hlt with ⟨wd, t, c, e, rfl, hc, he, hw, ht, htl, kk⟩ | ⟨wd, a, b, c, rfl, hc, hw, ha, hb, th', mv, hd⟩ | ⟨a, c, rfl, hc, ha, rfl⟩ | ⟨c, rfl, hc, rfl⟩ | ⟨wd, pre, preD, c, u, th0, rfl, hc, hu, hl0, hr0, hpre, hp01, hw, kk⟩
    · have hc0 := gI.same h _ _ hc
      have he0 := gI.same h _ _ he
      walk_at "st"
      walk_at "ux"
      refine fun p1 n1 => ⟨_, .inr (SqT.of upd_same), rfl, ?_⟩
      rw [if_pos (by rcases hw with rfl | rfl <;> decide +kernel)]
      have h1 := gI.tmp (.tup [.str "touch", .str "along"]) h n1
      have hc1 := gI.same h1 _ _ hc
      walk_at "st"
      walk_at "ux"
      refine ⟨⟨_, SqT.of (gI.same h1 _ _ he)⟩, ?_⟩
      refine gathE gI (src_tup (enc := iN) gI (.inl he) (AtL.nats.mpr rfl)) h1 (fun i => iN (order.idxOf i)) (by omega) ?_ ?_
      · intro j y i D5 q5 H5 hi hy s5 h5 My Mn myes
        obtain rfl := hy.int_is
        have ho5 := gI.in_ h5 ((hpo.up s5).more)
        have hio := hin i (ht i (List.mem_of_getElem? hi))
        walk_at "rd"
        exact ⟨.inl ⟨rfl, _, SqL.of ho5⟩, _, SqL.of ho5, flat_nats _, _, _, (idx_nat hio).1, eqV_nat _, (idx_nat hio).2, myes _ _ _ same_rfl h5 (.int _)⟩
      · intro D2 H2 v s2 h2 hv
        obtain ⟨p2, x2, rfl, hp2, hx2⟩ := hv.lst_is
        have hx3 : x2 = (t.map fun i => order.idxOf i).map vN := AtL.nats.mp (by rw [List.map_map]; exact hx2)
        subst hx3
        have hc2 := gI.same h2 _ _ (s2 _ _ hc)
        have hp20 := gI.same h2 _ _ hp2
        walk_at "st"
        walk_at "ux"
        walk_at "ux"
        rcases hw with rfl | rfl
        · rw [if_neg (by decide +kernel)]
          refine ⟨_, .inl ⟨SqL.of hp20, fun p3 n3 => ?_⟩⟩
          obtain ⟨h3, s3⟩ := gI.new (.tup ((t.map fun i => order.idxOf i).map vN)) h2 n3
          intro p4 n4
          obtain ⟨h4, s4⟩ := gI.new (.tup [.str "along", .ref p3]) h3 n4
          obtain ⟨th', mv, hd⟩ := kk (t.map fun i => order.idxOf i) (fun _ => rfl) (fun z => absurd z (by decide +kernel))
          refine k _ _ _ th' (same_tr s2 (same_tr s3 s4)) h4 mv ?_
          rw [hd]
          exact .tup upd_same (.cons (.str _) (.cons (.tup (s4 _ _ upd_same) (AtL.nats.mpr rfl)) .nil))
        · walk_at "rd"
          rw [nats_of] at hp20
          refine ⟨_, SqL.of hp20, fun ns p3 hperm hsort n3 => ?_⟩
          obtain ⟨u, rfl, hu1, hu2⟩ := perm_nat hperm
          rw [← nats_of]
          have h3 := gI.tmp (.lst (u.map vN)) h2 n3
          refine ⟨_, .inl ⟨SqL.of upd_same, fun p4 n4 p5 n5 => ?_⟩⟩
          obtain ⟨h4, s4⟩ := gI.new (.tup (u.map vN)) h3 n4
          obtain ⟨h5, s5⟩ := gI.new (.tup [.str "touch", .ref p4]) h4 n5
          obtain ⟨th', mv, hd⟩ := kk u (fun z => absurd z (by decide +kernel)) (fun _ => ⟨hu1, hu2 hsort⟩)
          refine k _ _ _ th' (same_tr s2 (same_tr s4 s5)) h5 mv ?_
          rw [hd]
          exact .tup upd_same (.cons (.str _) (.cons (.tup (s5 _ _ upd_same) (AtL.nats.mpr rfl)) .nil))
    · have hc0 := gI.same h _ _ hc
      walk_at "st"
      walk_at "ux"
      refine fun p1 n1 => ⟨_, .inr (SqT.of upd_same), rfl, ?_⟩
      rw [if_neg (by rcases hw with rfl | rfl <;> decide +kernel)]
      have h1 := gI.tmp (.tup [.str "touch", .str "along"]) h n1
      have hc1 := gI.same h1 _ _ hc
      walk_at "st"
      walk_at "ux"
      refine fun p2 n2 => ⟨_, .inr (SqT.of upd_same), rfl, ?_⟩
      rw [if_pos (by rcases hw with rfl | rfl <;> decide +kernel)]
      have h2 := gI.tmp (.tup [.str "both", .str "follow"]) h1 n2
      have hc2 := gI.same h2 _ _ hc
      have ho2 := gI.in_ h2 hpo
      walk_at "st"
      walk_at "ux"
      have hia := hin a ha
      have hib := hin b hb
      refine ⟨.inl ⟨rfl, _, SqL.of ho2⟩, _, SqT.of hc2, _, rfl, _, SqL.of ho2, rfl, flat_nats _, _, _, (idx_nat hia).1, eqV_nat _, (idx_nat hia).2, .inl ⟨rfl, _, SqL.of ho2⟩, _, SqT.of hc2, _, rfl, _, SqL.of ho2, rfl, flat_nats _, _, _, (idx_nat hib).1, eqV_nat _, (idx_nat hib).2, fun p3 n3 => ?_⟩
      obtain ⟨h3, s3⟩ := gI.new (.tup [.str wd, vN (order.idxOf a), vN (order.idxOf b)]) h2 n3
      refine k _ _ _ th' s3 h3 mv ?_
      rw [hd]
      exact .tup upd_same (.cons (.str _) (.cons (.int _) (.cons (.int _) .nil)))
    · have hc0 := gI.same h _ _ hc
      walk_at "st"
      walk_at "ux"
      refine fun p1 n1 => ⟨_, .inr (SqT.of upd_same), rfl, ?_⟩
      rw [if_neg (by decide +kernel)]
      have h1 := gI.tmp (.tup [.str "touch", .str "along"]) h n1
      have hc1 := gI.same h1 _ _ hc
      walk_at "st"
      walk_at "ux"
      refine fun p2 n2 => ⟨_, .inr (SqT.of upd_same), rfl, ?_⟩
      rw [if_neg (by decide +kernel)]
      have h2 := gI.tmp (.tup [.str "both", .str "follow"]) h1 n2
      have hc2 := gI.same h2 _ _ hc
      have ho2 := gI.in_ h2 hpo
      walk_at "st"
      walk_at "ux"
      have hia := hin a ha
      refine ⟨.inl ⟨rfl, _, SqL.of ho2⟩, _, SqT.of hc2, _, rfl, _, SqL.of ho2, rfl, flat_nats _, _, _, (idx_nat hia).1, eqV_nat _, (idx_nat hia).2, fun p3 n3 => ?_⟩
      obtain ⟨h3, s3⟩ := gI.new (.tup [.str "followers", vN (order.idxOf a)]) h2 n3
      exact k _ _ _ (.ta (.followers _)) s3 h3 (.a (.followers a)) (.tup upd_same (.cons (.str _) (.cons (.int _) .nil)))
    · have hc0 := gI.same h _ _ hc
      walk_at "st"
      walk_at "ux"
      refine fun p1 n1 => ⟨_, .inr (SqT.of upd_same), rfl, ?_⟩
      rw [if_neg (by decide +kernel)]
      have h1 := gI.tmp (.tup [.str "touch", .str "along"]) h n1
      have hc1 := gI.same h1 _ _ hc
      walk_at "st"
      walk_at "ux"
      refine fun p2 n2 => ⟨_, .inr (SqT.of upd_same), rfl, ?_⟩
      rw [if_neg (by decide +kernel)]
      have h2 := gI.tmp (.tup [.str "both", .str "follow"]) h1 n2
      have hc2 := gI.same h2 _ _ hc
      walk_at "st"
      walk_at "ux"
      rw [if_neg (by decide +kernel)]
      walk_at "st"
      walk_at "ux"
      exact k _ _ _ (.ta .sure) same_rfl h2 (.a .sure) (.tup hc (.cons (.str _) .nil))
    · have hc0 := gI.same h _ _ hc
      have i2 : ∀ (a b : Str), wd ≠ a → wd ≠ b → inV (.str wd) [.str a, .str b] = false := fun a b h1 h2 => by
        rw [show [V.str a, V.str b] = [a, b].map V.str from rfl, inV_strs]
        exact decF (by simp [h1, h2])
      simp only [List.mem_cons, List.not_mem_nil, or_false, not_or] at hw
      obtain ⟨w1, w2, w3, w4, w5, w6⟩ := hw
      rcases hp01 with rfl | ⟨z, rfl⟩
      · rw [List.nil_append] at hc hc0
        cases hpre
        walk_at "st"
        walk_at "ux"
        refine fun p1 n1 => ⟨_, .inr (SqT.of upd_same), rfl, ?_⟩
        rw [i2 _ _ w1 w2, if_neg Bool.false_ne_true]
        have h1 := gI.tmp (.tup [.str "touch", .str "along"]) h n1
        have hc1 := gI.same h1 _ _ hc
        walk_at "st"
        walk_at "ux"
        refine fun p2 n2 => ⟨_, .inr (SqT.of upd_same), rfl, ?_⟩
        rw [i2 _ _ w3 w4, if_neg Bool.false_ne_true]
        have h2 := gI.tmp (.tup [.str "both", .str "follow"]) h1 n2
        have hc2 := gI.same h2 _ _ hc
        walk_at "st"
        walk_at "ux"
        rw [if_neg w5]
        walk_at "st"
        walk_at "ux"
        rw [if_neg w6]
        walk_at "rd"
        refine ⟨_, SqT.of hc2, fun z => absurd z.2 (by show ¬ (HT.sIx 2 2 (some (-1)) = 2); decide), fun _ p3 n3 => ?_⟩
        rw [show cutV [.str wd, u] none (some (-1)) = [.str wd] from rfl]
        obtain ⟨h3, s3⟩ := gI.new (.tup [.str wd]) h2 n3
        have hc3 := gI.same h3 _ _ (s3 _ _ hc)
        refine ⟨_, SqT.of hc3, _, rfl, ?_⟩
        refine ⟨I, _, fr, po, order, _, th0, gI, rfl, h3, hpo.up s3, hu.up s3, hl0, hin, by omega, fun D4 H4 v4 th1 s4 h4 mv1 hv4 => ?_⟩
        obtain ⟨th', mv, hd⟩ := kk th1 mv1
        intro p5 n5
        have h5 := gI.tmp (.tup [v4]) h4 n5
        refine ⟨_, SqT.of (gI.same h5 _ _ (s4 _ _ upd_same)), _, SqT.of upd_same, by show 2 ≤ sizeLine; decide, fun z => absurd z (by simp), fun _ z => absurd z (by simp), fun _ _ p6 n6 => ?_⟩
        obtain ⟨h6, s6⟩ := gI.new (.tup ([.str wd] ++ [v4])) h5 n6
        refine k _ _ _ th' (same_tr s3 (same_tr s4 s6)) h6 mv ?_
        rw [hd]
        exact .tup upd_same (.cons (.str _) (.cons (hv4.up s6) .nil))
      · rw [List.singleton_append] at hc hc0
        cases hpre with
        | cons hz hnil =>
        cases hnil
        walk_at "st"
        walk_at "ux"
        refine fun p1 n1 => ⟨_, .inr (SqT.of upd_same), rfl, ?_⟩
        rw [i2 _ _ w1 w2, if_neg Bool.false_ne_true]
        have h1 := gI.tmp (.tup [.str "touch", .str "along"]) h n1
        have hc1 := gI.same h1 _ _ hc
        walk_at "st"
        walk_at "ux"
        refine fun p2 n2 => ⟨_, .inr (SqT.of upd_same), rfl, ?_⟩
        rw [i2 _ _ w3 w4, if_neg Bool.false_ne_true]
        have h2 := gI.tmp (.tup [.str "both", .str "follow"]) h1 n2
        have hc2 := gI.same h2 _ _ hc
        walk_at "st"
        walk_at "ux"
        rw [if_neg w5]
        walk_at "st"
        walk_at "ux"
        rw [if_neg w6]
        walk_at "rd"
        refine ⟨_, SqT.of hc2, fun z => absurd z.2 (by show ¬ (HT.sIx 3 3 (some (-1)) = 3); decide), fun _ p3 n3 => ?_⟩
        rw [show cutV [.str wd, z, u] none (some (-1)) = [.str wd, z] from rfl]
        obtain ⟨h3, s3⟩ := gI.new (.tup [.str wd, z]) h2 n3
        have hc3 := gI.same h3 _ _ (s3 _ _ hc)
        refine ⟨_, SqT.of hc3, _, rfl, ?_⟩
        refine ⟨I, _, fr, po, order, _, th0, gI, rfl, h3, hpo.up s3, hu.up s3, hl0, hin, by omega, fun D4 H4 v4 th1 s4 h4 mv1 hv4 => ?_⟩
        obtain ⟨th', mv, hd⟩ := kk th1 mv1
        intro p5 n5
        have h5 := gI.tmp (.tup [v4]) h4 n5
        refine ⟨_, SqT.of (gI.same h5 _ _ (s4 _ _ upd_same)), _, SqT.of upd_same, by show 3 ≤ sizeLine; decide, fun z => absurd z (by simp), fun _ z => absurd z (by simp), fun _ _ p6 n6 => ?_⟩
        obtain ⟨h6, s6⟩ := gI.new (.tup ([.str wd, z] ++ [v4])) h5 n6
        refine k _ _ _ th' (same_tr s3 (same_tr s4 s6)) h6 mv ?_
        rw [hd]
        exact .tup upd_same (.cons (.str _) (.cons (hz.up (same_tr s3 (same_tr s4 s6))) (.cons (hv4.up s6) .nil)))
end
/-! ### text B1 -/
def spDraw : Sp := fun vs H Q _ => ∃ (D : Hp) (S : Addr) (fr : List (Addr × HO)) (n : Int), vs = [.ref S, .int n] ∧ Sk D S fr H ∧ 0 < n ∧ n < 1073741824 ∧
  ∀ (H' : Hp) (r : Int), Sk D S fr H' → 0 ≤ r → r < n → Q (.int r) H'
section
variable {P : Program} {w : World} {K : PySem.W.Frag} {mg : Str → Option Value} {base : Heap}
theorem sc_law_draw : FnScope ["_law_stock_here", "_law_size", "_law_great", "_law_turn", "_law_cell", "_law_blend"] ["_law_stock_here", "_law_size"] (defScope s_law_draw) := ⟨rfl, rfl, rfl, by decide +kernel, rfl, by decide +kernel, by decide +kernel⟩
theorem c_law_draw (T : Txt K mg) : C8.Cal P w K mg base 1 "_law_draw" spDraw [] := by
  refine cal_mk T.d_law_draw sc_law_draw (fun _ _ _ _ _ _ us hl => match us, hl with | [_, _], _ => rfl) (fun vs H Q E h => ?_) (fun f cdv A outer s H vs Q E hr h => ?_)
  · obtain ⟨D, S, fr, n, rfl, _⟩ := h
    rfl
  obtain ⟨D, S, fr, n, rfl, ⟨G, F, gs, fs, sm, ct, h, hF, hf, hgl, hg⟩, n0, nb, k⟩ := h
  refine ⟨_, (pss_cons (ps_if (pt_cmpR (op_neD hr.units) (pe_ix ix_list (pv 0) pe_int (fun _ _ => rfl)) (pe_lst pa_nil) (nomark _)) (pss_cons (ps_set (i := 2) sc_law_draw.nd rfl (Or.inl rfl) (pe_bm0 PySem.F.plainAttrs_list PySem.F.slot_list_pop PySem.F.type_list_pop mt_pop (pe_ix ix_list (pv 0) pe_int (fun _ _ => rfl)))) (pss_cons (ps_if (pt_cmpR op_ge (pv 2) (pv 1) (nomark _)) (pss_one (ps_expr (pe_bm PySem.F.plainAttrs_list PySem.F.slot_list_append PySem.F.type_list_append mt_append (pe_ix ix_list (pv 0) pe_int (fun _ _ => rfl)) (pa_cons (pe_op op_fdivN (pv 2) (pv 1)) pa_nil)))) pss_nil) (pss_one (ps_ret (pe_op op_modN (pe_callTy ci_int (by rfl) T.b_int boot_int (pa_cons (pv 2) pa_nil)) (pv 1)))))) pss_nil) (pss_cons (ps_asg (pe_op op_add (pe_ix ix_list (pv 0) pe_int (fun _ _ => rfl)) pe_int) (pg_sub (pv 0) pe_int set_list)) (pss_cons (ps_set (i := 3) sc_law_draw.nd rfl (Or.inl rfl) (pe_ix ix_list (pv 0) pe_int (fun _ _ => rfl))) (pss_cons (ps_set (i := 4) sc_law_draw.nd rfl (Or.inl rfl) (pe_op op_modN (pe_callTy ci_int (by rfl) T.b_int boot_int (pa_cons (pe_ix ix_list (pe_ix ix_list (pv 0) pe_int (fun _ _ => rfl)) (pe_op op_modN (pe_callTy ci_int (by rfl) T.b_int boot_int (pa_cons (pv 3) pa_nil)) (pe_callB call_len_seq (by rfl) T.b_len PySem.boot_len (pa_cons (pe_ix ix_list (pv 0) pe_int (fun _ _ => rfl)) pa_nil))) (fun _ _ => rfl)) pa_nil)) pe_int)) (pss_cons (ps_set (i := 5) sc_law_draw.nd rfl (Or.inl rfl) (pe_op op_modN (pe_callTy ci_int (by rfl) T.b_int boot_int (pa_cons (pe_op op_add (pe_op op_add (pe_op op_mul (pv 4) pe_int) (pe_op op_mul (pe_op op_modN (pe_callTy ci_int (by rfl) T.b_int boot_int (pa_cons (pe_ix ix_list (pv 0) pe_int (fun _ _ => rfl)) pa_nil)) pe_int) pe_int)) (pe_op op_mul (pv 3) pe_int)) pa_nil)) pe_int)) (pss_cons (ps_set (i := 5) sc_law_draw.nd rfl (Or.inl rfl) (pe_op op_modN (pe_callTy ci_int (by rfl) T.b_int boot_int (pa_cons (pe_op op_add (pe_op op_add (pe_op op_mul (pv 5) (pv 5)) (pe_op op_mul (pv 3) pe_int)) (pv 4)) pa_nil)) pe_int)) (pss_one (ps_ret (pe_op op_modN (pe_op op_fdivN (pe_op op_modN (pe_callTy ci_int (by rfl) T.b_int boot_int (pa_cons (pe_op op_add (pe_op op_mul (pv 5) pe_int) (pe_op op_mul (pv 3) pe_int)) pa_nil)) pe_int) pe_int) (pv 1)))))))))), ?_⟩
  have hS : H S = some (.lst [.ref G, .ref F, .int sm, .int ct]) := h.at_ (q := (S, _)) (by simp)
  have hG : H G = some (.lst (gs.map V.int)) := h.at_ (q := (G, _)) (by simp)
  show tIfS _ _ _ _ [some (.ref S), some (.int n), none, none, none, none] H
  walk_at "rd"
  refine ⟨_, SqL.of hS, _, rfl, fun l hl => ?_⟩
  have h1 := h.tmp hl (.lst [])
  have hS1 : (upd H l (.lst [])) S = some (.lst [.ref G, .ref F, .int sm, .int ct]) := h1.at_ (q := (S, _)) (by simp)
  have hG1 : (upd H l (.lst [])) G = some (.lst (gs.map V.int)) := h1.at_ (q := (G, _)) (by simp)
  refine ⟨.list (gs.map .int), .lst (SqL.of hG1) (dp_ints _), .list [], .lst (SqL.of upd_same) .nil, ints_shaped _, rfl, ?_⟩
  generalize upd H l (.lst []) = H1 at *
  rcases List.eq_nil_or_concat gs with rfl | ⟨gs', g, rfl⟩
  · refine if_ne (by rfl) ?_
    walk_at "st"
    refine ⟨_, SqL.of hS1, _, rfl, ct, rfl, _, hS1, 3, rfl, ?_⟩
    have h2 := h1.upd fr.length (a := S) (o := .lst [.ref G, .ref F, .int sm, .int ct]) (by simp) (.lst [.ref G, .ref F, .int sm, .int (ct + 1)])
    have hS2 : (upd H1 S (.lst [.ref G, .ref F, .int sm, .int (ct + 1)])) S = some (.lst [.ref G, .ref F, .int sm, .int (ct + 1)]) := upd_same
    have hF2 := h2.same _ _ hF
    have hk : Sk D S fr (upd H1 S (.lst [.ref G, .ref F, .int sm, .int (ct + 1)])) := ⟨G, F, [], fs, sm, ct + 1, by simpa using h2, hF, hf, by simp, by simp⟩
    show tSeq _ _ _ _ (upd H1 S (.lst [.ref G, .ref F, .int sm, .int (ct + 1)]))
    generalize upd H1 S (.lst [.ref G, .ref F, .int sm, .int (ct + 1)]) = H2 at *
    walk_at "st"
    refine ⟨_, SqL.of hS2, _, rfl, ?_⟩
    walk_at "st"
    have hfl : (fs.length : Int) ≠ 0 := by
      have := List.length_pos_iff.mpr hf
      omega
    have hj := fmod_rng (ct + 1) (n := (fs.length : Int)) (by omega)
    obtain ⟨c, hc⟩ : ∃ c, fs[((ct + 1).fmod (fs.length : Int)).toNat]? = some c := ⟨_, List.getElem?_eq_getElem (by omega)⟩
    walk_at "ix"
    walk_at "ix"
    refine ⟨_, .inl (SqL.of hF2), ?_⟩
    rw [List.length_map]
    refine ⟨hfl, _, SqL.of hF2, .int c, ?_, ?_⟩
    · refine atI_of (n := ((ct + 1).fmod (fs.length : Int)).toNat) (by omega) ?_
      rw [List.getElem?_map, hc]
      rfl
    walk_at "rd"
    refine ⟨by decide, ?_⟩
    generalize Int.fmod c 1000000007 = cell
    walk_at "st"
    refine ⟨.inr ⟨by decide, by decide⟩, ?_⟩
    walk_at "ix"
    refine ⟨by decide, .inr ⟨by decide, by decide⟩, .inr ⟨by decide, by decide⟩, by decide, ?_⟩
    have hb := fmod_rng (cell * 48271 + sm.fmod 998244353 * 69621 + (ct + 1) * 2654435761) (n := 4294967291) (by decide)
    generalize Int.fmod (cell * 48271 + sm.fmod 998244353 * 69621 + (ct + 1) * 2654435761) 4294967291 = bl at *
    walk_at "st"
    refine ⟨.inl ⟨by omega, by omega⟩, .inr ⟨by decide, by decide⟩, by decide, ?_⟩
    generalize Int.fmod (bl * bl + (ct + 1) * 362437 + cell) 4294967279 = b2
    walk_at "st"
    refine ⟨.inr ⟨by decide, by decide⟩, .inr ⟨by decide, by decide⟩, by decide, ⟨by decide, by decide⟩, by omega, ?_⟩
    have hq := fmod_rng (((b2 * 40692 + (ct + 1) * 65537).fmod 4294967231).fdiv 4096) n0
    exact k _ _ hk hq.1 hq.2
  · refine if_eq (by cases gs' <;> rfl) ?_
    rw [List.concat_eq_append] at *
    have g0 : 0 ≤ g := hg g (by simp)
    walk_at "st"
    walk_at "ix"
    refine ⟨.inl ⟨rfl, _, SqL.of hG1⟩, _, hG1, .int g, by simp, ?_⟩
    rw [show ((gs' ++ [g]).map V.int).dropLast = gs'.map V.int by simp]
    have h2 := h1.upd (fr.length + 1) (a := G) (o := .lst ((gs' ++ [g]).map V.int)) (by simp) (.lst (gs'.map V.int))
    have hS2 : (upd H1 G (.lst (gs'.map V.int))) S = some (.lst [.ref G, .ref F, .int sm, .int ct]) := h2.at_ (q := (S, _)) (by simp [List.set_append])
    have hG2 : (upd H1 G (.lst (gs'.map V.int))) G = some (.lst (gs'.map V.int)) := upd_same
    rw [show (fr ++ [(S, HO.lst [.ref G, .ref F, .int sm, .int ct]), (G, .lst ((gs' ++ [g]).map V.int))]).set (fr.length + 1) (G, .lst (gs'.map V.int)) = fr ++ [(S, HO.lst [.ref G, .ref F, .int sm, .int ct]), (G, .lst (gs'.map V.int))] by simp [List.set_append]] at h2
    generalize upd H1 G (.lst (gs'.map V.int)) = H2 at *
    have hgl' : gs'.length ≤ 62 := by simp at hgl; omega
    walk_at "st"
    have hq := fmod_rng g n0
    refine ite2 (fun hc => ?_) (fun hc => ?_)
    · walk_at "rd"
      walk_at "ix"
      refine ⟨.inl ⟨rfl, _, SqL.of hG2⟩, ⟨by omega, by omega⟩, _, hG2, szl (by rw [List.length_map]; omega), by omega, ?_⟩
      have h3 := h2.upd (fr.length + 1) (a := G) (o := .lst (gs'.map V.int)) (by simp) (.lst (gs'.map V.int ++ [.int (g.fdiv n)]))
      rw [show (fr ++ [(S, HO.lst [.ref G, .ref F, .int sm, .int ct]), (G, .lst (gs'.map V.int))]).set (fr.length + 1) (G, .lst (gs'.map V.int ++ [.int (g.fdiv n)])) = fr ++ [(S, HO.lst [.ref G, .ref F, .int sm, .int ct]), (G, .lst ((gs' ++ [g.fdiv n]).map V.int))] by simp [List.set_append]] at h3
      refine k _ _ ⟨G, F, gs' ++ [g.fdiv n], fs, sm, ct, h3, hF, hf, by simp; omega, fun z hz => ?_⟩ hq.1 hq.2
      rcases List.mem_append.mp hz with hz | hz
      · exact hg z (by simp [hz])
      · rw [List.mem_singleton.mp hz]
        exact Int.fdiv_nonneg g0 (by omega)
    · walk_at "rd"
      refine ⟨by omega, ?_⟩
      exact k _ _ ⟨G, F, gs', fs, sm, ct, h2, hF, hf, by omega, fun z hz => hg z (by simp [hz])⟩ hq.1 hq.2
end
/-! ### text B2 -/
def spPick : Sp := fun vs H Q _ => ∃ (D : Hp) (S : Addr) (fr : List (Addr × HO)) (p : Addr) (xs : List V), vs = [.ref S, .ref p] ∧ Sk D S fr H ∧ In D fr p (.lst xs) ∧ xs ≠ [] ∧ xs.length ≤ 100000 ∧
  ∀ (H' : Hp) (v : V), Sk D S fr H' → v ∈ xs → Q v H'
def spShuf : Sp := fun vs H Q _ => ∃ (D : Hp) (S : Addr) (fr : List (Addr × HO)) (p : Addr) (xs : List V), vs = [.ref S, .ref p] ∧ Sk D S fr H ∧ In D fr p (.lst xs) ∧ xs.length ≤ 50000 ∧
  ∀ (D' H' : Hp) (q : Addr) (ys : List V), Same D D' → Sk D' S fr H' → D' q = some (.lst ys) → ys.Perm xs → Q (.ref q) H'
theorem perm_erase {α : Type} : ∀ {l : List α} {i : Nat} {x : α}, l[i]? = some x → ([x] ++ l.eraseIdx i).Perm l
  | [], i, x, h => by simp at h
  | a :: l, 0, x, h => by
    have e : a = x := Option.some.inj h
    subst e
    exact List.Perm.refl _
  | a :: l, i + 1, x, h => by
    have ih := perm_erase (l := l) (i := i) (x := x) h
    refine (List.Perm.swap a x _).trans ?_
    exact List.Perm.cons a ih
section
variable {P : Program} {w : World} {K : PySem.W.Frag} {mg : Str → Option Value} {base : Heap}
theorem sc_law_pick : FnScope ["_law_stock_here", "_law_row"] ["_law_stock_here", "_law_row"] (defScope s_law_pick) := ⟨rfl, rfl, rfl, by decide +kernel, rfl, by decide +kernel, by decide +kernel⟩
theorem c_law_pick (T : Txt K mg) : C8.Cal P w K mg base 2 "_law_pick" spPick [] := by
  have h_law_draw : C8.Cal P w K mg base 1 "_law_draw" spDraw [] := c_law_draw T
  refine cal_mk T.d_law_pick sc_law_pick (fun _ _ _ _ _ _ us hl => match us, hl with | [_, _], _ => rfl) (fun vs H Q E h => ?_) (fun f cdv A outer s H vs Q E hr h => ?_)
  · obtain ⟨D, S, fr, p, xs, rfl, _⟩ := h
    rfl
  obtain ⟨D, S, fr, p, xs, rfl, h, hp, h0, hl, k⟩ := h
  refine ⟨_, (pss_one (ps_ret (pe_ix ix_list (pv 1) (C8.pe_c h_law_draw hr (by decide) rfl (pa_cons (pv 0) (pa_cons (pe_callB call_len_seq (by rfl) T.b_len PySem.boot_len (pa_cons (pv 1) pa_nil)) pa_nil))) (fun _ _ => rfl)))), ?_⟩
  show tRet _ _ [some (.ref S), some (.ref p)] H
  walk_at "rd"
  have hx := h.in_ hp
  have hn := List.length_pos_iff.mpr h0
  refine ⟨_, .inl (SqL.of hx), D, S, fr, _, rfl, h, by omega, by omega, fun H' r h1 r0 r1 => ?_⟩
  have hx1 := h1.in_ hp
  obtain ⟨v, hv⟩ : ∃ v, xs[r.toNat]? = some v := ⟨_, List.getElem?_eq_getElem (by omega)⟩
  walk_at "rd"
  exact ⟨_, SqL.of hx1, v, atI_of (by omega) hv, k _ _ h1 (List.mem_of_getElem? hv)⟩
theorem sc_law_shuffled : FnScope ["_law_stock_here", "_law_row", "_law_rest", "_law_made_here", "_law_turn"] ["_law_stock_here", "_law_row"] (defScope s_law_shuffled) := ⟨rfl, rfl, rfl, by decide +kernel, rfl, by decide +kernel, by decide +kernel⟩
theorem c_law_shuffled (T : Txt K mg) : C8.Cal P w K mg base 2 "_law_shuffled" spShuf [] := by
  have h_law_draw : C8.Cal P w K mg base 1 "_law_draw" spDraw [] := c_law_draw T
  refine cal_mk T.d_law_shuffled sc_law_shuffled (fun _ _ _ _ _ _ us hl => match us, hl with | [_, _], _ => rfl) (fun vs H Q E h => ?_) (fun f cdv A outer s H vs Q E hr h => ?_)
  · obtain ⟨D, S, fr, p, xs, rfl, _⟩ := h
    rfl
  obtain ⟨D, S, fr, p, xs, rfl, h, hp, hl, k⟩ := h
  refine ⟨_, (pss_cons (ps_par (i := 2) (j := 3) rfl sc_law_shuffled.nd rfl rfl (by decide) rfl rfl (pa_cons (pe_callTy call_list_of (by rfl) T.b_list boot_list (pa_cons (pv 1) pa_nil)) (pa_cons (pe_lst pa_nil) pa_nil)) (by rfl)) (pss_cons (ps_for PassesOwn.never rfl (pi_range1 (by rfl) T.b_range (pa_cons (pe_callB call_len_seq (by rfl) T.b_len PySem.boot_len (pa_cons (pv 1) pa_nil)) pa_nil)) (pg_name (i := 4) sc_law_shuffled.nd rfl (.inl rfl)) (pss_one (ps_expr (pe_bm PySem.F.plainAttrs_list PySem.F.slot_list_append PySem.F.type_list_append mt_append (pv 3) (pa_cons (pe_bm PySem.F.plainAttrs_list PySem.F.slot_list_pop PySem.F.type_list_pop mt_popAt (pv 2) (pa_cons (C8.pe_c h_law_draw hr (by decide) rfl (pa_cons (pv 0) (pa_cons (pe_callB call_len_seq (by rfl) T.b_len PySem.boot_len (pa_cons (pv 2) pa_nil)) pa_nil))) pa_nil)) pa_nil))))) (pss_one (ps_ret (pv 3))))), ?_⟩
  show tSeq _ _ _ [some (.ref S), some (.ref p), none, none, none] H
  have hx := h.in_ hp
  walk_at "st"
  refine ⟨_, .inl (SqL.of hx), fun rest hrest => fun made hmade => ?_⟩
  have h1 := h.put hrest (.lst xs)
  have h2 := h1.put hmade (.lst [])
  walk_at "st"
  walk_at "st"
  have hx2 := h2.in_ (hp.more.more)
  refine ⟨_, .inl (SqL.of hx2), by omega, by omega, ?_⟩
  refine loop_f walk_range (fun i σ H' => ∃ (ys zs : List V) (r : Option V), σ = [some (.ref S), some (.ref p), some (.ref rest), some (.ref made), r] ∧ Sk D S ((made, .lst ys) :: (rest, .lst zs) :: fr) H' ∧ ys.length = i ∧ ys.length + zs.length = xs.length ∧ (ys ++ zs).Perm xs)
    ⟨[], xs, none, rfl, h2, rfl, by simp, by simp⟩ (fun _ _ _ _ _ => trivial) ?_ ?_
  · rintro i x σ H1 H2 hi ⟨ys, zs, r, rfl, hs, hy, hz, hperm⟩ ⟨rfl, rfl⟩ N hN
    walk_at "rd"
    have g1 := hs.get 0 rfl
    have g2 := hs.get 1 rfl
    have hi' : i < xs.length := by simpa using hi
    refine ⟨.inl ⟨rfl, _, SqL.of g1⟩, .inl ⟨rfl, _, SqL.of g2⟩, _, .inl (SqL.of g2), D, S, _, _, rfl, hs, by omega, by omega, fun H3 q h3 q0 q1 => ?_⟩
    walk_at "rd"
    have g3 := h3.get 1 rfl
    obtain ⟨v, hv⟩ : ∃ v, zs[q.toNat]? = some v := ⟨_, List.getElem?_eq_getElem (by omega)⟩
    refine ⟨_, g3, by omega, by omega, q.toNat, seqIndex_of q0 (by omega), v, hv, ?_⟩
    have h4 := h3.upd 1 rfl (.lst (zs.eraseIdx q.toNat))
    have g4 := h4.get 0 rfl
    refine ⟨_, g4, szl (by omega), hN _ _ ⟨ys ++ [v], zs.eraseIdx q.toNat, _, rfl, h4.upd 0 rfl _, by simp [hy], ?_, ?_⟩⟩
    · rw [List.length_append, List.length_singleton, List.length_eraseIdx_of_lt (by omega)]
      omega
    · refine List.Perm.trans ?_ hperm
      rw [List.append_assoc]
      exact List.Perm.append_left _ (perm_erase hv)
  · rintro σ H1 ⟨ys, zs, r, rfl, hs, hy, hz, hperm⟩
    have hzl : zs = [] := List.length_eq_zero_iff.mp (by have := hy; simp at this; omega)
    subst hzl
    walk_at "st"
    obtain ⟨h5, e5⟩ := hs.fix
    exact k _ _ made ys e5 (h5.drop 0) upd_same (by simpa using hperm)
end
/-! ### text C7 -/
theorem cutV_to {xs : List V} {k : Nat} : cutV xs none (some (k : Int)) = xs.take k := by
  unfold cutV
  rw [HT.sIx_none, HT.sIx_nat, List.drop_zero, Nat.sub_zero, List.take_eq_take_iff]
  omega
theorem cutV_from {xs : List V} {k : Nat} : cutV xs (some (k : Int)) none = xs.drop k := by
  unfold cutV
  rw [HT.sIx_none, HT.sIx_nat]
  by_cases h : k ≤ xs.length
  · rw [Nat.min_eq_left h, List.take_of_length_le (by rw [List.length_drop]; omega)]
  · rw [Nat.min_eq_right (by omega), List.drop_length, List.take_nil, List.drop_eq_nil_of_le (by omega)]
theorem perm_map_inv {α β : Type} {f : α → β} {ys zs : List β} (h : ys.Perm zs) : ∀ l : List α, zs = l.map f → ∃ l' : List α, ys = l'.map f ∧ l'.Perm l := by
  induction h with
  | nil => intro l e; exact ⟨[], rfl, by cases l with | nil => exact .nil | cons a l => cases e⟩
  | cons x h ih =>
    intro l e
    cases l with
    | nil => cases e
    | cons a l =>
      cases e
      obtain ⟨l', rfl, p⟩ := ih l rfl
      exact ⟨a :: l', rfl, p.cons a⟩
  | swap x y t =>
    intro l e
    cases l with
    | nil => cases e
    | cons a l =>
      cases l with
      | nil => cases e
      | cons b l =>
        cases e
        exact ⟨b :: a :: l, rfl, .swap _ _ _⟩
  | trans _ _ ih1 ih2 =>
    intro l e
    obtain ⟨l', rfl, p⟩ := ih2 l e
    obtain ⟨l'', rfl, p'⟩ := ih1 l' rfl
    exact ⟨l'', rfl, p'.trans p⟩
def spHole : Sp := fun vs H Q _ => ∃ (D : Hp) (S : Addr) (fr : List (Addr × HO)) (lo : Nat) (hi : Option Nat) (vh : V), vs = [.ref S, vN lo, vh] ∧ Sk D S fr H ∧ At D vh (oN hi) ∧ lo ≤ 10 ^ 30 ∧ (∀ h, hi = some h → h ≤ 10 ^ 30) ∧
  ∀ (D' H' : Hp) (v : V) (ws : List Str), Same D D' → Sk D' S fr H' → HoW lo hi ws → At D' v (.list (ws.map .str)) → Q v H'
inductive Tw : List Str → List Str → Prop
  | same {ws : List Str} : ("touch" : Str) ∉ ws → Tw ws ws
  | shuf {pre t u : List Str} : ("touch" : Str) ∉ pre → u.Perm t → Tw (pre ++ ("touch" : Str) :: t) (pre ++ ("touch" : Str) :: u)
def spTold : Sp := fun vs H Q _ => ∃ (D : Hp) (S : Addr) (fr : List (Addr × HO)) (pn : V) (pw : Addr) (ws : List Str), vs = [.ref S, pn, .ref pw] ∧ Sk D S fr H ∧ D pw = some (.lst (ws.map V.str)) ∧ ws.length ≤ 20000 ∧
  ∀ (D' H' : Hp) (v : V) (ws' : List Str), Same D D' → Sk D' S fr H' → Tw ws ws' → At D' v (.list (ws'.map .str)) → Q v H'
section
variable {P : Program} {w : World} {K : PySem.W.Frag} {mg : Str → Option Value} {base : Heap}
theorem sc_law_hole_tokens : FnScope ["_law_stock_here", "_law_low", "_law_high"] ["_law_stock_here", "_law_low", "_law_high"] (defScope s_law_hole_tokens) := ⟨rfl, rfl, rfl, by decide +kernel, rfl, by decide +kernel, by decide +kernel⟩
theorem c_law_hole_tokens (T : Txt K mg) : C8.Cal P w K mg base 2 "_law_hole_tokens" spHole [] := by
  have h_law_draw : C8.Cal P w K mg base 1 "_law_draw" spDraw [] := c_law_draw T
  refine cal_mk T.d_law_hole_tokens sc_law_hole_tokens (fun _ _ _ _ _ _ us hl => match us, hl with | [_, _, _], _ => rfl) (fun vs H Q E h => ?_) (fun f cdv A outer s H vs Q E hr h => ?_)
  · obtain ⟨D, S, fr, lo, hi, vh, rfl, _⟩ := h
    rfl
  obtain ⟨D, S, fr, lo, hi, vh, rfl, h, hvh, hlo, hhi, k⟩ := h
  refine ⟨_, (pss_cons (ps_if (pt_cmpR op_isN (pv 2) pe_non (nomark _)) (pss_one (ps_ret (pe_ifExp (PW.pt (pw_and (pt_cmpR op_eq (pv 1) pe_int (nomark _)) (pw_and1 (pt_cmpR op_eq (C8.pe_c h_law_draw hr (by decide) rfl (pa_cons (pv 0) (pa_cons pe_int pa_nil))) pe_int (nomark _))))) (pe_lst (pa_cons pe_str pa_nil)) (pe_lst (pa_cons (pe_callTy call_str_int (by rfl) T.b_str boot_str (pa_cons (pv 1) pa_nil)) (pa_cons pe_str pa_nil)))))) pss_nil) (pss_one (ps_ret (pe_ifExp (PW.pt (pw_and (pt_cmpR op_eq (pv 1) (pv 2) (nomark _)) (pw_and1 (pt_cmpR op_eq (C8.pe_c h_law_draw hr (by decide) rfl (pa_cons (pv 0) (pa_cons pe_int pa_nil))) pe_int (nomark _))))) (pe_lst (pa_cons (pe_callTy call_str_int (by rfl) T.b_str boot_str (pa_cons (pv 1) pa_nil)) pa_nil)) (pe_lst (pa_cons (pe_callTy call_str_int (by rfl) T.b_str boot_str (pa_cons (pv 1) pa_nil)) (pa_cons pe_str (pa_cons (pe_callTy call_str_int (by rfl) T.b_str boot_str (pa_cons (pv 2) pa_nil)) pa_nil)))))))), ?_⟩
  show tSeq _ _ _ [some (.ref S), some (vN lo), some vh] H
  have gS : Ground (fun D fr H => Sk D S fr H) := ground_Sk
  cases hi with
  | none =>
    obtain rfl := hvh.non_is
    walk_at "st"
    have fin : ∀ H1, Sk D S fr H1 → ∀ p, H1 p = none → Q (.ref p) (upd H1 p (.lst [.str (num lo), .str ".."])) := fun H1 h1 p np => by
      obtain ⟨h2, s2⟩ := h1.new np (.lst [.str (num lo), .str ".."])
      exact k _ _ _ _ s2 h2 (.open1 lo) (.lst upd_same (AtL.strs.mpr rfl))
    by_cases h0 : lo = 0
    · subst h0
      rw [if_pos (by rfl)]
      refine ⟨D, S, fr, 2, rfl, h, by decide, by decide, fun H1 r h1 r0 r1 => ?_⟩
      walk_at "rd"
      by_cases hr0 : r = 0
      · rw [if_pos hr0]
        intro p np
        obtain ⟨h2, s2⟩ := h1.new np (.lst [.str "?"])
        exact k _ _ _ _ s2 h2 .open0 (.lst upd_same (AtL.strs.mpr rfl))
      · rw [if_neg hr0]
        exact ⟨by decide, fin H1 h1⟩
    · rw [if_neg (by omega)]
      exact ⟨num_lt hlo, fin H h⟩
  | some hi =>
    obtain rfl := hvh.int_is
    walk_at "st"
    have fin : ∀ H1, Sk D S fr H1 → ∀ p, H1 p = none → Q (.ref p) (upd H1 p (.lst [.str (num lo), .str "..", .str (num hi)])) := fun H1 h1 p np => by
      obtain ⟨h2, s2⟩ := h1.new np (.lst [.str (num lo), .str "..", .str (num hi)])
      exact k _ _ _ _ s2 h2 (.two lo hi) (.lst upd_same (AtL.strs.mpr rfl))
    have hhl := hhi hi rfl
    by_cases h0 : lo = hi
    · subst h0
      rw [if_pos (by rfl)]
      refine ⟨D, S, fr, 2, rfl, h, by decide, by decide, fun H1 r h1 r0 r1 => ?_⟩
      walk_at "rd"
      by_cases hr0 : r = 0
      · rw [if_pos hr0]
        refine ⟨num_lt hlo, fun p np => ?_⟩
        obtain ⟨h2, s2⟩ := h1.new np (.lst [.str (num lo)])
        exact k _ _ _ _ s2 h2 (.one lo) (.lst upd_same (AtL.strs.mpr rfl))
      · rw [if_neg hr0]
        exact ⟨num_lt hlo, num_lt hlo, fin H1 h1⟩
    · rw [if_neg (by omega)]
      exact ⟨num_lt hlo, num_lt hhl, fin H h⟩
theorem sc_law_told_words : FnScope ["_law_stock_here", "_law_names", "_law_words", "_law_spot"] ["_law_stock_here", "_law_names", "_law_words"] (defScope s_law_told_words) := ⟨rfl, rfl, rfl, by decide +kernel, rfl, by decide +kernel, by decide +kernel⟩
theorem c_law_told_words (T : Txt K mg) : C8.Cal P w K mg base 3 "_law_told_words" spTold [] := by
  have h_law_shuffled : C8.Cal P w K mg base 2 "_law_shuffled" spShuf [] := c_law_shuffled T
  refine cal_mk T.d_law_told_words sc_law_told_words (fun _ _ _ _ _ _ us hl => match us, hl with | [_, _, _], _ => rfl) (fun vs H Q E h => ?_) (fun f cdv A outer s H vs Q E hr h => ?_)
  · obtain ⟨D, S, fr, pn, pw, ws, rfl, _⟩ := h
    rfl
  obtain ⟨D, S, fr, pn, pw, ws, rfl, h, hpw, hwl, k⟩ := h
  refine ⟨_, (pss_cons (ps_if (pt_cmpR op_notIn_seq pe_str (pv 2) (by rfl)) (pss_one (ps_ret (pv 2))) pss_nil) (pss_cons (ps_set (i := 3) sc_law_told_words.nd rfl (Or.inl rfl) (pe_op op_add (pe_bm PySem.F.plainAttrs_list PySem.F.slot_list_index PySem.F.type_list_index mt_index (pv 2) (pa_cons pe_str pa_nil)) pe_int)) (pss_one (ps_ret (pe_op op_cat (pe_slice sl_list (pv 2) po_none (po_some (pv 3))) (C8.pe_c h_law_shuffled hr (by decide) rfl (pa_cons (pv 0) (pa_cons (pe_slice sl_list (pv 2) (po_some (pv 3)) po_none) pa_nil)))))))), ?_⟩
  show tSeq _ _ _ [some (.ref S), some pn, some (.ref pw), none] H
  have gS : Ground (fun D fr H => Sk D S fr H) := ground_Sk
  have hw0 := h.same _ _ hpw
  walk_at "st"
  refine ⟨_, .inl (SqL.of hw0), flat_strs _, ?_⟩
  rw [inV_strs]
  by_cases ht : ("touch" : Str) ∈ ws
  · rw [decT ht]
    walk_at "st"
    obtain ⟨z1, z2⟩ := idx_str ht
    have hj : ws[ws.idxOf ("touch" : Str)]? = some ("touch" : Str) := by
      rw [List.getElem?_map, Option.map_eq_some_iff] at z1
      obtain ⟨a, ha, e⟩ := z1
      cases e
      exact ha
    have hpre : ("touch" : Str) ∉ ws.take (ws.idxOf ("touch" : Str)) := fun hm => by
      obtain ⟨m, hm⟩ := List.mem_iff_getElem?.mp hm
      rw [List.getElem?_take] at hm
      by_cases hlt : m < ws.idxOf ("touch" : Str)
      · rw [if_pos hlt] at hm
        have := z2 m (.str "touch") hlt (by rw [List.getElem?_map, hm]; rfl)
        rw [eqV_str] at this
        cases this
      · rw [if_neg hlt] at hm
        cases hm
    have hsplit : ws = ws.take (ws.idxOf ("touch" : Str)) ++ ("touch" : Str) :: ws.drop (ws.idxOf ("touch" : Str) + 1) := by
      obtain ⟨hl, he⟩ := List.getElem?_eq_some_iff.mp hj
      have z := List.drop_eq_getElem_cons hl
      rw [he] at z
      rw [← z, List.take_append_drop]
    refine ⟨.inl ⟨rfl, _, SqL.of hw0⟩, _, SqL.of hw0, flat_strs _, _, _, z1, eqV_str _, z2, _, SqL.of hw0, fun p1 n1 => ?_⟩
    generalize ws.idxOf ("touch" : Str) = j at *
    rw [show ((j : Int) + 1) = ((j + 1 : Nat) : Int) from rfl, cutV_to]
    obtain ⟨h1, s1⟩ := h.new n1 (.lst ((ws.map V.str).take (j + 1)))
    refine ⟨_, SqL.of (h1.same _ _ (s1 _ _ hpw)), fun p2 n2 => ?_⟩
    rw [cutV_from]
    obtain ⟨h2, s2⟩ := h1.new n2 (.lst ((ws.map V.str).drop (j + 1)))
    refine ⟨_, S, fr, p2, _, rfl, h2, .inl upd_same, by rw [List.length_drop, List.length_map]; omega, fun D3 H3 q ys s3 h3 hq hperm => ?_⟩
    rw [← List.map_drop] at hperm
    obtain ⟨u, rfl, hu⟩ := perm_map_inv hperm _ rfl
    have hlu := hu.length_eq
    rw [List.length_drop] at hlu
    walk_at "rd"
    refine ⟨_, h3.same _ _ (s3 _ _ (s2 _ _ upd_same)), _, h3.same _ _ hq, sz (by rw [List.length_take, List.length_map, List.length_map]; omega), fun p4 n4 => ?_⟩
    obtain ⟨h4, s4⟩ := h3.new n4 (.lst ((ws.map V.str).take (j + 1) ++ u.map V.str))
    refine k _ _ _ (ws.take j ++ ("touch" : Str) :: u) (same_tr s1 (same_tr s2 (same_tr s3 s4))) h4 ?_ (.lst upd_same ?_)
    · have := Tw.shuf hpre hu
      rwa [← hsplit] at this
    · rw [← List.map_take, ← List.map_append, AtL.strs]
      congr 1
      rw [List.take_add_one, hj, List.append_assoc]
      rfl
  · rw [decF ht]
    walk_at "st"
    exact k _ _ _ ws same_rfl h (.same ht) (.lst hpw (AtL.strs.mpr rfl))
end
/-! ### text F1 -/
/-! ## the law's net -/
def prN (e : Nat × Nat) : PyData := .tuple [iN e.1, iN e.2]
def netD (many : Nat) (es : List (Nat × Nat)) : PyData := .tuple [iN many, .tuple (es.map prN)]
structure NetAt (D : Hp) (p pr : Addr) (rx : List V) (many : Nat) (es : List (Nat × Nat)) : Prop where
  net : D p = some (.tup [vN many, .ref pr])
  roads : D pr = some (.tup rx)
  at_ : AtL D rx (es.map prN)
theorem NetAt.up {D D' : Hp} {p pr : Addr} {rx : List V} {many : Nat} {es : List (Nat × Nat)} (h : NetAt D p pr rx many es) (s : Same D D') : NetAt D' p pr rx many es := ⟨s _ _ h.net, s _ _ h.roads, h.at_.up s⟩
theorem prN_at {D : Hp} {x : V} {e : Nat × Nat} (h : At D x (prN e)) : ∃ a, x = .ref a ∧ D a = some (.tup [vN e.1, vN e.2]) := by
  obtain ⟨a, u, v, rfl, ha, hu, hv⟩ := tu2_at h
  rw [hu.int_is, hv.int_is] at ha
  exact ⟨a, rfl, ha⟩
theorem NetAt.get {D : Hp} {p pr : Addr} {rx : List V} {many : Nat} {es : List (Nat × Nat)} (h : NetAt D p pr rx many es) {i : Nat} {e : Nat × Nat} (he : es[i]? = some e) : ∃ a, rx[i]? = some (.ref a) ∧ D a = some (.tup [vN e.1, vN e.2]) := by
  obtain ⟨v, hv, hat⟩ := h.at_.get (i := i) (d := prN e) (by rw [List.getElem?_map, he] <;> rfl)
  obtain ⟨a, rfl, ha⟩ := prN_at hat
  exact ⟨a, hv, ha⟩
theorem Path.snoc {α : Type} {es : List (α × α)} {u v m : α} {i : Nat} : ∀ {t : List Nat}, Path es u t v → es[i]? = some (v, m) → Path es u (t ++ [i]) m
  | _, .nil _, h => .cons h (.nil _)
  | _, .cons h1 p, h => .cons h1 (p.snoc h)
def spStretch : Sp := fun vs H Q _ => ∃ (D : Hp) (S : Addr) (fr : List (Addr × HO)) (p pr : Addr) (rx : List V) (many : Nat) (es : List (Nat × Nat)), vs = [.ref S, .ref p] ∧ Sk D S fr H ∧ NetAt D p pr rx many es ∧ es ≠ [] ∧ es.length ≤ 1000 ∧
  ∀ (D' H' : Hp) (v : V) (t : List Nat), Same D D' → Sk D' S fr H' → Str8 es t → t.length ≤ 60 → At D' v (tup1 t) → Q v H'
def spQuestion : Sp := fun vs H Q _ => ∃ (D : Hp) (S : Addr) (fr : List (Addr × HO)) (p pr : Addr) (rx : List V) (many : Nat) (es : List (Nat × Nat)), vs = [.ref S, .ref p] ∧ Sk D S fr H ∧ NetAt D p pr rx many es ∧ es ≠ [] ∧ es.length ≤ 1000 ∧
  ∀ (D' H' : Hp) (v : V) (q : Qu), Same D D' → Sk D' S fr H' → QuOk es q → At D' v q.d → Q v H'
section
variable {P : Program} {w : World} {K : PySem.W.Frag} {mg : Str → Option Value} {base : Heap}
theorem sc_law_stretch : FnScope ["_law_stock_here", "_law_net_here", "_law_found", "_law_turn", "_law_rows", "_law_spot", "_law_road"] ["_law_stock_here", "_law_net_here"] (defScope s_law_stretch) := ⟨rfl, rfl, rfl, by decide +kernel, rfl, by decide +kernel, by decide +kernel⟩
theorem c_law_stretch (T : Txt K mg) : C8.Cal P w K mg base 3 "_law_stretch" spStretch [] := by
  have h_law_draw : C8.Cal P w K mg base 1 "_law_draw" spDraw [] := c_law_draw T
  have h_law_pick : C8.Cal P w K mg base 2 "_law_pick" spPick [] := c_law_pick T
  refine cal_mk T.d_law_stretch sc_law_stretch (fun _ _ _ _ _ _ us hl => match us, hl with | [_, _], _ => rfl) (fun vs H Q E h => ?_) (fun f cdv A outer s H vs Q E hr h => ?_)
  · obtain ⟨D, S, fr, p, pr, rx, many, es, rfl, _⟩ := h
    rfl
  obtain ⟨D, S, fr, p, pr, rx, many, es, rfl, h, hnet, hne, hel, k⟩ := h
  refine ⟨_, (pss_cons (ps_set (i := 2) sc_law_stretch.nd rfl (Or.inr rfl) (pe_lst (pa_cons (C8.pe_c h_law_draw hr (by decide) rfl (pa_cons (pv 0) (pa_cons (pe_callB call_len_seq (by rfl) T.b_len PySem.boot_len (pa_cons (pe_ix ix_tup (pv 1) pe_int (fun _ _ => rfl)) pa_nil)) pa_nil))) pa_nil))) (pss_cons (ps_for PassesOwn.never rfl (pi_range1 (by rfl) T.b_range (pa_cons (C8.pe_c h_law_draw hr (by decide) rfl (pa_cons (pv 0) (pa_cons pe_int pa_nil))) pa_nil)) (pg_name (i := 3) sc_law_stretch.nd rfl (.inl rfl)) (pss_cons (ps_setLc (g := (gTup K 2 _)) (tt := (tTest (tOp _ (tOp (rIxT K) _ _) (tOp (rIxT K) (tOp (rIxT K) (tOp (rIxT K) _ _) (tOp (rIxL K) _ _)) _)))) (te := _) (i := 4) (own := [("_law_spot", 5), ("_law_road", 6)]) rfl sc_law_stretch.nd rfl rfl (sw_true rfl rfl rfl (by decide +kernel)) (pi_enumT (by rfl) T.b_enumerate (pa_cons (pe_ix ix_tup (pv 1) pe_int (fun _ _ => rfl)) pa_nil)) (blkOk_by (by kernel_rfl)) (fun _ _ _ _ _ => (pg_tup rfl (pgs_cons (pg_name (i := 5) sc_law_stretch.nd rfl (.inl rfl)) (pgs_cons (pg_name (i := 6) sc_law_stretch.nd rfl (.inl rfl)) pgs_nil)))) (fun _ _ _ _ _ => (pts_one (pt_cmpR op_eq (pe_ix ix_tup (pv 6) pe_int (fun _ _ => rfl)) (pe_ix ix_tup (pe_ix ix_tup (pe_ix ix_tup (pv 1) pe_int (fun _ _ => rfl)) (pe_ix ix_list (pv 2) (pe_un un_neg pe_int) (fun _ _ => rfl)) (fun _ _ => rfl)) pe_int (fun _ _ => rfl)) (nomark _)))) (fun _ _ _ _ _ => (pv 5))) (pss_one (ps_if (pt_cmpR (op_neD hr.units) (pv 4) (pe_lst pa_nil) (nomark _)) (pss_one (ps_expr (pe_bm PySem.F.plainAttrs_list PySem.F.slot_list_append PySem.F.type_list_append mt_append (pv 2) (pa_cons (C8.pe_c h_law_pick hr (by decide) rfl (pa_cons (pv 0) (pa_cons (pv 4) pa_nil))) pa_nil)))) pss_nil)))) (pss_one (ps_ret (pe_callTy call_tuple_ofN (by rfl) T.b_tuple boot_tuple (pa_cons (pv 2) pa_nil)))))), ?_⟩
  show tSeq _ _ _ [some (.ref S), some (.ref p), none, none, none, none, none] H
  have gI : Ground (fun D fr H => Sk D S fr H) := ground_Sk
  have hl0 := List.length_pos_iff.mpr hne
  have hrl : rx.length = es.length := by rw [hnet.at_.len, List.length_map]
  have n0 := h.same _ _ hnet.net
  have r0 := h.same _ _ hnet.roads
  walk_at "st"
  walk_at "ux"
  refine ⟨_, .inr (SqT.of r0), D, S, fr, _, rfl, h, by omega, by omega, fun H1 r h1 q0 q1 => ?_⟩
  walk_at "rd"
  intro p1 n1
  have h2 := h1.put n1 (.lst [.int r])
  walk_at "st"
  refine ⟨D, S, _, 4, rfl, h2, by decide, by decide, fun H2 r2 h3 z0 z1 => ?_⟩
  walk_at "rd"
  obtain ⟨e0, he0⟩ : ∃ e, es[r.toNat]? = some e := ⟨_, List.getElem?_eq_getElem (by omega)⟩
  have er : V.int r = vN r.toNat := congrArg V.int (by omega)
  refine ⟨by omega, by omega, ?_⟩
  refine loop_f walk_range (fun i σ H' => ∃ (D' : Hp) (t : List Nat) (u v l a : Nat) (x3 x4 x5 x6 : Option V), σ = [some (.ref S), some (.ref p), some (.ref p1), x3, x4, x5, x6] ∧ Same D D' ∧ Sk D' S ((p1, .lst (t.map vN)) :: fr) H' ∧ Path es u t v ∧ t.getLast? = some l ∧ es[l]? = some (a, v) ∧ t.length ≤ i + 1)
    ⟨D, [r.toNat], e0.1, e0.2, r.toNat, e0.1, _, _, _, _, rfl, same_rfl, by rw [List.map_singleton, ← er]; exact h3, .cons he0 (.nil _), rfl, he0, Nat.le_refl _⟩ (fun _ _ _ _ _ => trivial) ?_ ?_
  · rintro i x σ H4 H5 hi ⟨D4, t, u, v, l, a, x3, x4, x5, x6, rfl, s4, h4, hp, hl, hel4, htl⟩ ⟨rfl, rfl⟩ N hN
    have hnet4 := hnet.up s4
    have n4 := h4.same _ _ hnet4.net
    have r4 := h4.same _ _ hnet4.roads
    walk_at "st"
    walk_at "st"
    walk_at "ux"
    refine ⟨⟨_, SqT.of r4⟩, ?_⟩
    refine gathF gI (src_enumT gI (.inl hnet4.roads) hnet4.at_) h4 iN (fun z => if z.1.1 = v then some z.2 else none) (by rw [List.length_zipIdx]; omega) ?_ ?_
    · intro j y z D5 q5 H5 hz hy s5 h5 My Mn myes mno
      obtain ⟨b, y1, y2, rfl, hb, hy1, hy2⟩ := tu2_at hy
      obtain ⟨c, rfl, hc⟩ := prN_at hy2
      obtain rfl := hy1.int_is
      have hb5 := h5.same _ _ hb
      have hc5 := h5.same _ _ hc
      have n5 := h5.same _ _ (s5 _ _ hnet4.net)
      have r5 := h5.same _ _ (s5 _ _ hnet4.roads)
      obtain ⟨g, hg, hgD⟩ := hnet4.get hel4
      walk_at "rd"
      refine ⟨_, SqT.of hb5, rfl, _, _, rfl, _, _, rfl, rfl, ?_⟩
      walk_at "rd"
      walk_at "ux"
      refine ⟨_, SqT.of n5, _, rfl, _, SqL.of (h5.get 1 rfl), vN l, atI_last (by rw [List.getLast?_map, hl] <;> rfl), _, rfl, _, _, rfl, SqT.of r5, _, atI_of rfl hg, _, rfl, _, SqT.of (h5.same _ _ (s5 _ _ hgD)), _, rfl, rfl, ?_⟩
      refine ite2 (fun q => ?_) (fun q => ?_)
      · have hzv : z.1.1 = v := by
          have := V.int.inj q
          omega
        exact myes _ _ _ _ same_rfl h5 (.int _) (if_pos hzv)
      · have hzv : ¬ z.1.1 = v := fun e => q (by rw [e] <;> rfl)
        exact mno _ _ same_rfl h5 (if_neg hzv)
    · intro D5 H5 w5 s5 h5 hw5
      walk_at "st"
      intro p6 n6
      obtain ⟨pw, xw, rfl, hpw, hxw⟩ := hw5.lst_is
      obtain rfl := AtL.nats.mp hxw
      have h6 := h5.tmp n6 (.lst [])
      have pw6 := h6.same _ _ hpw
      refine ⟨_, .lst (SqL.of pw6) (AtL.dp h6.same hxw), _, .lst (SqL.of upd_same) .nil, shaped_list fun d hd => ?_, shaped_nil, ?_⟩
      · obtain ⟨n, _, rfl⟩ := List.mem_map.mp hd
        exact ⟨by simp [iN, PyData.canLay0], by simp [iN, PyData.depth]⟩
      rw [eqv_nil]
      by_cases hL : (es.zipIdx.filterMap fun z => if z.1.1 = v then some z.2 else none) = []
      · rw [hL]
        refine if_ne (by rfl) ?_
        exact hN _ _ ⟨D5, t, u, v, l, a, _, _, _, _, rfl, same_tr s4 s5, h6, hp, hl, hel4, by omega⟩
      · refine if_eq (by cases hz : (es.zipIdx.filterMap fun z => if z.1.1 = v then some z.2 else none) with | nil => exact absurd hz hL | cons a l => rfl) ?_
        refine ⟨.inl ⟨rfl, _, SqL.of (h6.get 0 rfl)⟩, D5, S, _, pw, _, rfl, h6, .inl hpw, by simpa using hL, ?_, fun H7 y h7 hy => ?_⟩
        · have := List.length_filterMap_le (fun z : (Nat × Nat) × Nat => if z.1.1 = v then some z.2 else none) es.zipIdx
          rw [List.length_zipIdx] at this
          rw [List.length_map]
          omega
        obtain ⟨j, hj, rfl⟩ := List.mem_map.mp hy
        obtain ⟨z, hz, hzj⟩ := List.mem_filterMap.mp hj
        by_cases hzv : z.1.1 = v
        · rw [if_pos hzv] at hzj
          cases hzj
          have hz2 : es[z.2]? = some z.1 := by
            obtain ⟨m, hm⟩ := List.mem_iff_getElem?.mp hz
            rw [List.getElem?_zipIdx, Option.map_eq_some_iff] at hm
            obtain ⟨e, he, rfl⟩ := hm
            simpa using he
          refine ⟨_, h7.get 0 rfl, szl (by rw [List.length_map]; omega), hN _ _ ⟨D5, t ++ [z.2], u, z.1.2, z.2, v, _, _, _, _, rfl, same_tr s4 s5, ?_, hp.snoc (by rw [hz2, ← hzv]), by simp, by rw [hz2, ← hzv], by simp; omega⟩⟩
          rw [List.map_append]
          exact h7.upd 0 rfl _
        · rw [if_neg hzv] at hzj
          cases hzj
  · rintro σ H4 ⟨D4, t, u, v, l, a, x3, x4, x5, x6, rfl, s4, h4, hp, hl, hel4, htl⟩
    walk_at "st"
    walk_at "st"
    refine ⟨_, .inl ⟨SqL.of (h4.get 0 rfl), fun p5 n5 => ?_⟩⟩
    obtain ⟨h5, s5⟩ := h4.new n5 (.tup (t.map vN))
    refine k _ _ _ t (same_tr s4 s5) (h5.drop 0) ⟨fun z => (by rw [z] at hl; cases hl), u, v, hp⟩ (by omega) (.tup upd_same (AtL.nats.mpr rfl))
end
/-! ### text F2 -/
theorem big {n : Nat} (h : n ≤ 2000) : n ≤ 10 ^ 30 := Nat.le_trans h (by decide +kernel)
theorem range_vals : ∀ n : Nat, (List.range n).map (fun i : Nat => V.int ((0 : Int) + (i : Int))) = (List.range n).map vN := fun n => List.map_congr_left fun i _ => congrArg V.int (by omega)
theorem rgV_nat (n : Nat) : rgV 0 (n : Int) = (List.range n).map vN := by
  unfold rgV
  rw [Int.sub_zero, Int.toNat_natCast]
  exact range_vals n
def spSaying : Sp := fun vs H Q _ => ∃ (D : Hp) (S : Addr) (fr : List (Addr × HO)) (p pr : Addr) (rx : List V) (many top nots : Nat) (es : List (Nat × Nat)), vs = [.ref S, .ref p, vN top, vN nots] ∧ Sk D S fr H ∧ NetAt D p pr rx many es ∧ es ≠ [] ∧ es.length ≤ 1000 ∧ top ≤ 1000 ∧ nots ≤ 1000 ∧
  ∀ (D' H' : Hp) (v : V) (s : Sa), Same D D' → Sk D' S fr H' → SaOk es s → s.nots = nots → At D' v s.d → Q v H'
section
variable {P : Program} {w : World} {K : PySem.W.Frag} {mg : Str → Option Value} {base : Heap}
theorem sc_law_question : FnScope ["_law_stock_here", "_law_net_here", "_law_roads", "_law_way"] ["_law_stock_here", "_law_net_here"] (defScope s_law_question) := ⟨rfl, rfl, rfl, by decide +kernel, rfl, by decide +kernel, by decide +kernel⟩
theorem c_law_question (T : Txt K mg) : C8.Cal P w K mg base 4 "_law_question" spQuestion [] := by
  have h_law_draw : C8.Cal P w K mg base 1 "_law_draw" spDraw [] := c_law_draw T
  have h_law_pick : C8.Cal P w K mg base 2 "_law_pick" spPick [] := c_law_pick T
  have h_law_shuffled : C8.Cal P w K mg base 2 "_law_shuffled" spShuf [] := c_law_shuffled T
  have h_law_stretch : C8.Cal P w K mg base 3 "_law_stretch" spStretch [] := c_law_stretch T
  refine cal_mk T.d_law_question sc_law_question (fun _ _ _ _ _ _ us hl => match us, hl with | [_, _], _ => rfl) (fun vs H Q E h => ?_) (fun f cdv A outer s H vs Q E hr h => ?_)
  · obtain ⟨D, S, fr, p, pr, rx, many, es, rfl, _⟩ := h
    rfl
  obtain ⟨D, S, fr, p, pr, rx, many, es, rfl, h, hnet, hne, hel, k⟩ := h
  refine ⟨_, (pss_cons (ps_par (i := 2) (j := 3) rfl sc_law_question.nd rfl rfl (by decide) rfl rfl (pa_cons (pe_listRg rfl (by rfl) T.b_list (prg_1 (by rfl) T.b_range (pe_callB call_len_seq (by rfl) T.b_len PySem.boot_len (pa_cons (pe_ix ix_tup (pv 1) pe_int (fun _ _ => rfl)) pa_nil)))) (pa_cons (C8.pe_c h_law_draw hr (by decide) rfl (pa_cons (pv 0) (pa_cons pe_int pa_nil))) pa_nil)) (by rfl)) (pss_cons (ps_if (pt_cmpR op_eq (pv 3) pe_int (nomark _)) (pss_one (ps_ret (pe_tup (pa_cons pe_str (pa_cons (C8.pe_c h_law_stretch hr (by decide) rfl (pa_cons (pv 0) (pa_cons (pv 1) pa_nil))) pa_nil))))) pss_nil) (pss_cons (ps_if (pt_cmpR op_eq (pv 3) pe_int (nomark _)) (pss_one (ps_ret (pe_tup (pa_cons pe_str (pa_cons (pe_callTy call_tuple_ofN (by rfl) T.b_tuple boot_tuple (pa_cons (pe_callB cr_sortedI (by rfl) T.b_sorted boot_sorted (pa_cons (pe_slice sl_list (C8.pe_c h_law_shuffled hr (by decide) rfl (pa_cons (pv 0) (pa_cons (pv 2) pa_nil))) po_none (po_some (pe_op op_add pe_int (C8.pe_c h_law_draw hr (by decide) rfl (pa_cons (pv 0) (pa_cons pe_int pa_nil)))))) pa_nil)) pa_nil)) pa_nil))))) pss_nil) (pss_one (ps_ret (pe_tup (pa_cons pe_str (pa_cons (C8.pe_c h_law_pick hr (by decide) rfl (pa_cons (pv 0) (pa_cons (pv 2) pa_nil))) (pa_cons (C8.pe_c h_law_pick hr (by decide) rfl (pa_cons (pv 0) (pa_cons (pv 2) pa_nil))) pa_nil))))))))), ?_⟩
  show tSeq _ _ _ [some (.ref S), some (.ref p), none, none] H
  have gI : Ground (fun D fr H => Sk D S fr H) := ground_Sk
  have hl0 := List.length_pos_iff.mpr hne
  have hrl : rx.length = es.length := by rw [hnet.at_.len, List.length_map]
  have n0 := h.same _ _ hnet.net
  have r0 := h.same _ _ hnet.roads
  walk_at "st"
  walk_at "ux"
  refine ⟨_, .inr (SqT.of r0), RgOk.of_le (by omega) (by omega) (by omega) (by omega), fun p1 n1 => ?_⟩
  rw [rgV_nat, hrl]
  obtain ⟨h1, s1⟩ := h.new n1 (.lst ((List.range es.length).map vN))
  refine ⟨_, S, fr, 3, rfl, h1, by decide, by decide, fun H2 r h2 z0 z1 => ?_⟩
  walk_at "st"
  walk_at "st"
  have hnet2 := hnet.up s1
  have q1 : upd D p1 (.lst ((List.range es.length).map vN)) p1 = some (.lst ((List.range es.length).map vN)) := upd_same
  generalize upd D p1 (.lst ((List.range es.length).map vN)) = D2 at *
  refine ite2 (fun hr => ?_) (fun hr => ?_)
  · walk_at "rd"
    refine ⟨D2, S, fr, p, pr, rx, many, es, rfl, h2, hnet2, hne, hel, fun D3 H3 v t s3 h3 ht htl hv => ?_⟩
    walk_at "rd"
    intro p4 n4
    obtain ⟨h4, s4⟩ := h3.new n4 (.tup [.str "along", v])
    exact k _ _ _ (.along t) (same_tr s1 (same_tr s3 s4)) h4 (.along ht htl) (.tup upd_same (.cons (.str _) (.cons (hv.up s4) .nil)))
  walk_at "st"
  refine ite2 (fun hr2 => ?_) (fun hr2 => ?_)
  · walk_at "rd"
    refine ⟨D2, S, fr, p1, _, rfl, h2, .inl q1, by simp; omega, fun D3 H3 q ys s3 h3 hq hperm => ?_⟩
    obtain ⟨u, rfl, hu⟩ := perm_map_inv hperm _ rfl
    refine ⟨D3, S, fr, 3, rfl, h3, by decide, by decide, fun H4 r4 h4 y0 y1 => ?_⟩
    walk_at "rd"
    refine ⟨_, SqL.of (h4.same _ _ hq), fun p5 n5 => ?_⟩
    rw [show (1 + r4 : Int) = ((1 + r4.toNat : Nat) : Int) by omega, cutV_to, ← List.map_take]
    have h5 := h4.tmp n5 (.lst ((u.take (1 + r4.toNat)).map vN))
    rw [nats_of] at h5 ⊢
    refine ⟨_, SqL.of upd_same, fun ns p6 hns hsort n6 => ?_⟩
    obtain ⟨w, rfl, hw1, hw2⟩ := perm_nat hns
    rw [← nats_of, ← nats_of] at *
    have h6 := h5.tmp n6 (.lst (w.map vN))
    refine ⟨_, .inl ⟨SqL.of upd_same, fun p7 n7 p8 n8 => ?_⟩⟩
    obtain ⟨h7, s7⟩ := h6.new n7 (.tup (w.map vN))
    obtain ⟨h8, s8⟩ := h7.new n8 (.tup [.str "touch", .ref p7])
    have hsub : ∀ i ∈ w, i ∈ u := fun i hi => List.mem_of_mem_take (hw1.mem_iff.mp hi)
    refine k _ _ _ (.touch w) (same_tr s1 (same_tr s3 (same_tr s7 s8))) h8 (.touch ?_ (fun i hi => ?_) ?_) (.tup upd_same (.cons (.str _) (.cons (.tup (s8 _ _ upd_same) (AtL.nats.mpr rfl)) .nil)))
    · intro hz
      have l1 := hw1.length_eq
      have l2 := hu.length_eq
      rw [hz, List.length_take, l2, List.length_range] at l1
      simp at l1
      omega
    · have := hu.mem_iff.mp (hsub i hi)
      simpa using this
    · have hnd : w.Nodup := hw1.nodup_iff.mpr ((hu.nodup_iff.mpr List.nodup_range).sublist (List.take_sublist _ _))
      exact (List.pairwise_and_iff.mpr ⟨hw2 hsort, hnd⟩).imp fun {a b} hab => by have := hab.1; have := hab.2; omega
  · walk_at "rd"
    have hx : ∀ (i : Nat), vN i ∈ (List.range es.length).map vN → i < es.length := fun i hi => by
      obtain ⟨j, hj, e⟩ := List.mem_map.mp hi
      have e2 := V.int.inj e
      rw [List.mem_range] at hj
      omega
    refine ⟨D2, S, fr, p1, _, rfl, h2, .inl q1, by simp; omega, by simp; omega, fun H3 v3 h3 hv3 => ?_⟩
    obtain ⟨a, ha, rfl⟩ := List.mem_map.mp hv3
    walk_at "rd"
    refine ⟨D2, S, fr, p1, _, rfl, h3, .inl q1, by simp; omega, by simp; omega, fun H4 v4 h4 hv4 => ?_⟩
    obtain ⟨b, hb, rfl⟩ := List.mem_map.mp hv4
    walk_at "rd"
    intro p5 n5
    obtain ⟨h5, s5⟩ := h4.new n5 (.tup [.str "both", vN a, vN b])
    exact k _ _ _ (.both a b) (same_tr s1 s5) h5 (.both (hx a hv3) (hx b hv4)) (.tup upd_same (.cons (.str _) (.cons (.int _) (.cons (.int _) .nil))))
theorem sc_law_saying : FnScope ["_law_stock_here", "_law_net_here", "_law_top", "_law_nots", "_law_roads", "_law_way", "_law_saying_here", "_law_turn"] ["_law_stock_here", "_law_net_here", "_law_top", "_law_nots"] (defScope s_law_saying) := ⟨rfl, rfl, rfl, by decide +kernel, rfl, by decide +kernel, by decide +kernel⟩
theorem c_law_saying (T : Txt K mg) : C8.Cal P w K mg base 5 "_law_saying" spSaying [] := by
  have h_law_draw : C8.Cal P w K mg base 1 "_law_draw" spDraw [] := c_law_draw T
  have h_law_pick : C8.Cal P w K mg base 2 "_law_pick" spPick [] := c_law_pick T
  have h_law_question : C8.Cal P w K mg base 4 "_law_question" spQuestion [] := c_law_question T
  refine cal_mk T.d_law_saying sc_law_saying (fun _ _ _ _ _ _ us hl => match us, hl with | [_, _, _, _], _ => rfl) (fun vs H Q E h => ?_) (fun f cdv A outer s H vs Q E hr h => ?_)
  · obtain ⟨D, S, fr, p, pr, rx, many, top, nots, es, rfl, _⟩ := h
    rfl
  obtain ⟨D, S, fr, p, pr, rx, many, top, nots, es, rfl, h, hnet, hne, hel, htop, hnots, k⟩ := h
  refine ⟨_, (pss_cons (ps_par (i := 4) (j := 5) rfl sc_law_saying.nd rfl rfl (by decide) rfl rfl (pa_cons (pe_listRg rfl (by rfl) T.b_list (prg_1 (by rfl) T.b_range (pe_callB call_len_seq (by rfl) T.b_len PySem.boot_len (pa_cons (pe_ix ix_tup (pv 1) pe_int (fun _ _ => rfl)) pa_nil)))) (pa_cons (C8.pe_c h_law_draw hr (by decide) rfl (pa_cons (pv 0) (pa_cons pe_int pa_nil))) pa_nil)) (by rfl)) (pss_cons (ps_if (pt_cmpR op_lt (pv 5) pe_int (nomark _)) (pss_one (ps_set (i := 6) sc_law_saying.nd rfl (Or.inl rfl) (pe_tup (pa_cons pe_str (pa_cons (C8.pe_c h_law_draw hr (by decide) rfl (pa_cons (pv 0) (pa_cons (pe_op op_add (pv 2) pe_int) pa_nil))) (pa_cons (C8.pe_c h_law_question hr (by decide) rfl (pa_cons (pv 0) (pa_cons (pv 1) pa_nil))) pa_nil)))))) (pss_one (ps_if (pt_cmpR op_lt (pv 5) pe_int (nomark _)) (pss_one (ps_set (i := 6) sc_law_saying.nd rfl (Or.inl rfl) (pe_tup (pa_cons pe_str (pa_cons (C8.pe_c h_law_draw hr (by decide) rfl (pa_cons (pv 0) (pa_cons (pe_op op_add (pv 2) pe_int) pa_nil))) (pa_cons (C8.pe_c h_law_question hr (by decide) rfl (pa_cons (pv 0) (pa_cons (pv 1) pa_nil))) pa_nil)))))) (pss_one (ps_set (i := 6) sc_law_saying.nd rfl (Or.inl rfl) (pe_tup (pa_cons pe_str (pa_cons (C8.pe_c h_law_pick hr (by decide) rfl (pa_cons (pv 0) (pa_cons (pv 4) pa_nil))) (pa_cons (C8.pe_c h_law_pick hr (by decide) rfl (pa_cons (pv 0) (pa_cons (pv 4) pa_nil))) pa_nil))))))))) (pss_cons (ps_for PassesOwn.never rfl (pi_range1 (by rfl) T.b_range (pa_cons (pv 3) pa_nil)) (pg_name (i := 7) sc_law_saying.nd rfl (.inl rfl)) (pss_one (ps_set (i := 6) sc_law_saying.nd rfl (Or.inl rfl) (pe_tup (pa_cons pe_str (pa_cons (pv 6) pa_nil)))))) (pss_one (ps_ret (pv 6)))))), ?_⟩
  show tSeq _ _ _ [some (.ref S), some (.ref p), some (vN top), some (vN nots), none, none, none, none] H
  have gI : Ground (fun D fr H => Sk D S fr H) := ground_Sk
  have hl0 := List.length_pos_iff.mpr hne
  have hrl : rx.length = es.length := by rw [hnet.at_.len, List.length_map]
  have n0 := h.same _ _ hnet.net
  have r0 := h.same _ _ hnet.roads
  walk_at "st"
  walk_at "ux"
  refine ⟨_, .inr (SqT.of r0), RgOk.of_le (by omega) (by omega) (by omega) (by omega), fun p1 n1 => ?_⟩
  rw [rgV_nat, hrl]
  obtain ⟨h1, s1⟩ := h.new n1 (.lst ((List.range es.length).map vN))
  refine ⟨_, S, fr, 5, rfl, h1, by decide, by decide, fun H2 r h2 z0 z1 => ?_⟩
  have hnet2 := hnet.up s1
  have q1 : upd D p1 (.lst ((List.range es.length).map vN)) p1 = some (.lst ((List.range es.length).map vN)) := upd_same
  generalize upd D p1 (.lst ((List.range es.length).map vN)) = D2 at *
  walk_at "st"
  rw [u_seq]
  have hx : ∀ v : V, v ∈ (List.range es.length).map vN → ∃ i, i < es.length ∧ v = vN i := fun v hv => by
    obtain ⟨j, hj, e⟩ := List.mem_map.mp hv
    exact ⟨j, by simpa using hj, e.symm⟩
  refine ts_cut (fun σ' H' => ∃ (D' : Hp) (s : Sa) (v : V), σ' = [some (.ref S), some (.ref p), some (vN top), some (vN nots), some (.ref p1), some (.int r), some v, none] ∧ Same D2 D' ∧ Sk D' S fr H' ∧ SaOk es s ∧ s.nots = 0 ∧ At D' v s.d) (fun N hN => ?_) ?_
  · walk_at "rd"
    refine ite2 (fun hr1 => ?_) (fun hr1 => ?_)
    · refine ⟨D2, S, fr, _, rfl, h2, by omega, by omega, fun H3 r3 h3 y0 y1 => ?_⟩
      walk_at "rd"
      refine ⟨D2, S, fr, p, pr, rx, many, es, rfl, h3, hnet2, hne, hel, fun D4 H4 v q s4 h4 hq hv => ?_⟩
      walk_at "rd"
      intro p5 n5
      obtain ⟨h5, s5⟩ := h4.new n5 (.tup [.str "least", .int r3, v])
      have er : V.int r3 = vN r3.toNat := congrArg V.int (by omega)
      exact hN _ _ ⟨_, .least r3.toNat q, _, rfl, same_tr s4 s5, h5, .least (big (by omega)) hq, rfl, .tup upd_same (.cons (.str _) (.cons (by rw [er]; exact .int _) (.cons (hv.up s5) .nil)))⟩
    walk_at "rd"
    refine ite2 (fun hr2 => ?_) (fun hr2 => ?_)
    · refine ⟨D2, S, fr, _, rfl, h2, by omega, by omega, fun H3 r3 h3 y0 y1 => ?_⟩
      walk_at "rd"
      refine ⟨D2, S, fr, p, pr, rx, many, es, rfl, h3, hnet2, hne, hel, fun D4 H4 v q s4 h4 hq hv => ?_⟩
      walk_at "rd"
      intro p5 n5
      obtain ⟨h5, s5⟩ := h4.new n5 (.tup [.str "most", .int r3, v])
      have er : V.int r3 = vN r3.toNat := congrArg V.int (by omega)
      exact hN _ _ ⟨_, .most r3.toNat q, _, rfl, same_tr s4 s5, h5, .most (big (by omega)) hq, rfl, .tup upd_same (.cons (.str _) (.cons (by rw [er]; exact .int _) (.cons (hv.up s5) .nil)))⟩
    · refine ⟨D2, S, fr, p1, _, rfl, h2, .inl q1, by simp; omega, by simp; omega, fun H3 v3 h3 hv3 => ?_⟩
      obtain ⟨a, ha, rfl⟩ := hx _ hv3
      walk_at "rd"
      refine ⟨D2, S, fr, p1, _, rfl, h3, .inl q1, by simp; omega, by simp; omega, fun H4 v4 h4 hv4 => ?_⟩
      obtain ⟨b, hb, rfl⟩ := hx _ hv4
      walk_at "rd"
      intro p5 n5
      obtain ⟨h5, s5⟩ := h4.new n5 (.tup [.str "follow", vN a, vN b])
      exact hN _ _ ⟨_, .follow a b, _, rfl, s5, h5, .follow ha hb, rfl, .tup upd_same (.cons (.str _) (.cons (.int _) (.cons (.int _) .nil)))⟩
  · rintro σ' H3 ⟨D3, s, v, rfl, s3, h3, hs, hs0, hv⟩
    walk_at "st"
    walk_at "st"
    refine ⟨by omega, by omega, ?_⟩
    refine loop_f walk_range (fun i σ H' => ∃ (D' : Hp) (s : Sa) (v : V) (x7 : Option V), σ = [some (.ref S), some (.ref p), some (vN top), some (vN nots), some (.ref p1), some (.int r), some v, x7] ∧ Same D2 D' ∧ Sk D' S fr H' ∧ SaOk es s ∧ s.nots = i ∧ At D' v s.d)
      ⟨D3, s, v, _, rfl, s3, h3, hs, hs0, hv⟩ (fun _ _ _ _ _ => trivial) ?_ ?_
    · rintro i x σ H4 H5 hi ⟨D4, s, v, x7, rfl, s4, h4, hs, hsn, hv⟩ ⟨rfl, rfl⟩ N hN
      walk_at "rd"
      walk_at "rd"
      intro p5 n5
      obtain ⟨h5, s5⟩ := h4.new n5 (.tup [.str "not", v])
      exact hN _ _ ⟨_, .no s, _, _, rfl, same_tr s4 s5, h5, .no hs, by show s.nots + 1 = i + 1; omega, .tup upd_same (.cons (.str _) (.cons (hv.up s5) .nil))⟩
    · rintro σ H4 ⟨D4, s, v, x7, rfl, s4, h4, hs, hsn, hv⟩
      walk_at "st"
      walk_at "st"
      exact k _ _ _ s (same_tr s1 s4) h4 hs (by simpa using hsn) hv
end
/-! ### text F3 -/
def spAsked : Sp := fun vs H Q _ => ∃ (D : Hp) (S : Addr) (fr : List (Addr × HO)) (p pr : Addr) (rx : List V) (many : Nat) (es : List (Nat × Nat)), vs = [.ref S, .ref p] ∧ Sk D S fr H ∧ NetAt D p pr rx many es ∧ es ≠ [] ∧ es.length ≤ 1000 ∧
  ∀ (D' H' : Hp) (v : V) (a : As), Same D D' → Sk D' S fr H' → AsOk es a → At D' v a.d → Q v H'
def spHoleM : Sp := fun vs H Q _ => ∃ (D : Hp) (S : Addr) (fr : List (Addr × HO)), vs = [.ref S] ∧ Sk D S fr H ∧
  ∀ (D' H' : Hp) (v : V) (lo : Nat) (hi : Option Nat), Same D D' → Sk D' S fr H' → lo ≤ 10 ^ 28 → (∀ h, hi = some h → lo ≤ h ∧ h ≤ 10 ^ 28) → At D' v (.tuple [iN lo, oN hi]) → Q v H'
section
variable {P : Program} {w : World} {K : PySem.W.Frag} {mg : Str → Option Value} {base : Heap}
theorem sc_law_asked : FnScope ["_law_stock_here", "_law_net_here", "_law_way", "_law_saying_here"] ["_law_stock_here", "_law_net_here"] (defScope s_law_asked) := ⟨rfl, rfl, rfl, by decide +kernel, rfl, by decide +kernel, by decide +kernel⟩
theorem c_law_asked (T : Txt K mg) : C8.Cal P w K mg base 6 "_law_asked" spAsked [] := by
  have h_law_draw : C8.Cal P w K mg base 1 "_law_draw" spDraw [] := c_law_draw T
  have h_law_pick : C8.Cal P w K mg base 2 "_law_pick" spPick [] := c_law_pick T
  have h_law_question : C8.Cal P w K mg base 4 "_law_question" spQuestion [] := c_law_question T
  have h_law_saying : C8.Cal P w K mg base 5 "_law_saying" spSaying [] := c_law_saying T
  refine cal_mk T.d_law_asked sc_law_asked (fun _ _ _ _ _ _ us hl => match us, hl with | [_, _], _ => rfl) (fun vs H Q E h => ?_) (fun f cdv A outer s H vs Q E hr h => ?_)
  · obtain ⟨D, S, fr, p, pr, rx, many, es, rfl, _⟩ := h
    rfl
  obtain ⟨D, S, fr, p, pr, rx, many, es, rfl, h, hnet, hne, hel, k⟩ := h
  refine ⟨_, (pss_cons (ps_set (i := 2) sc_law_asked.nd rfl (Or.inl rfl) (C8.pe_c h_law_draw hr (by decide) rfl (pa_cons (pv 0) (pa_cons pe_int pa_nil)))) (pss_cons (ps_if (pt_cmpR op_lt (pv 2) pe_int (nomark _)) (pss_one (ps_ret (pe_tup (pa_cons (C8.pe_c h_law_pick hr (by decide) rfl (pa_cons (pv 0) (pa_cons (pe_lst (pa_cons pe_str (pa_cons pe_str pa_nil))) pa_nil))) (pa_cons (C8.pe_c h_law_question hr (by decide) rfl (pa_cons (pv 0) (pa_cons (pv 1) pa_nil))) pa_nil))))) pss_nil) (pss_cons (ps_if (pt_cmpR op_eq (pv 2) pe_int (nomark _)) (pss_one (ps_ret (pe_tup (pa_cons pe_str (pa_cons (C8.pe_c h_law_draw hr (by decide) rfl (pa_cons (pv 0) (pa_cons (pe_callB call_len_seq (by rfl) T.b_len PySem.boot_len (pa_cons (pe_ix ix_tup (pv 1) pe_int (fun _ _ => rfl)) pa_nil)) pa_nil))) pa_nil))))) pss_nil) (pss_cons (ps_if (pt_cmpR op_eq (pv 2) pe_int (nomark _)) (pss_one (ps_ret (pe_tup (pa_cons pe_str pa_nil)))) pss_nil) (pss_cons (ps_set (i := 3) sc_law_asked.nd rfl (Or.inl rfl) (C8.pe_c h_law_saying hr (by decide) rfl (pa_cons (pv 0) (pa_cons (pv 1) (pa_cons pe_int (pa_cons (C8.pe_c h_law_pick hr (by decide) rfl (pa_cons (pv 0) (pa_cons (pe_lst (pa_cons pe_int (pa_cons pe_int (pa_cons pe_int (pa_cons pe_int pa_nil))))) pa_nil))) pa_nil)))))) (pss_one (ps_ret (pe_tup (pa_cons pe_str (pa_cons (pv 3) pa_nil)))))))))), ?_⟩
  show tSeq _ _ _ [some (.ref S), some (.ref p), none, none] H
  have hl0 := List.length_pos_iff.mpr hne
  have hrl : rx.length = es.length := by rw [hnet.at_.len, List.length_map]
  walk_at "st"
  refine ⟨D, S, fr, 8, rfl, h, by decide, by decide, fun H1 r h1 z0 z1 => ?_⟩
  walk_at "st"
  walk_at "st"
  have n1 := h1.same _ _ hnet.net
  have r1 := h1.same _ _ hnet.roads
  refine ite2 (fun hr => ?_) (fun hr => ?_)
  · walk_at "rd"
    intro p2 n2
    obtain ⟨h2, s2⟩ := h1.new n2 (.lst [.str "least", .str "most"])
    refine ⟨_, S, fr, p2, _, rfl, h2, .inl upd_same, by simp, by simp, fun H3 v3 h3 hv3 => ?_⟩
    walk_at "rd"
    refine ⟨_, S, fr, p, pr, rx, many, es, rfl, h3, hnet.up s2, hne, hel, fun D4 H4 v q s4 h4 hq hv => ?_⟩
    walk_at "rd"
    intro p5 n5
    obtain ⟨h5, s5⟩ := h4.new n5 (.tup [v3, v])
    simp only [List.mem_cons, List.not_mem_nil, or_false] at hv3
    rcases hv3 with rfl | rfl
    · exact k _ _ _ (.least q) (same_tr s2 (same_tr s4 s5)) h5 (.least hq) (.tup upd_same (.cons (.str _) (.cons (hv.up s5) .nil)))
    · exact k _ _ _ (.most q) (same_tr s2 (same_tr s4 s5)) h5 (.most hq) (.tup upd_same (.cons (.str _) (.cons (hv.up s5) .nil)))
  walk_at "st"
  refine ite2 (fun hr2 => ?_) (fun hr2 => ?_)
  · walk_at "ux"
    refine ⟨_, .inr (SqT.of r1), D, S, fr, _, rfl, h1, by omega, by omega, fun H3 r3 h3 y0 y1 => ?_⟩
    walk_at "rd"
    intro p5 n5
    have er : V.int r3 = vN r3.toNat := congrArg V.int (by omega)
    obtain ⟨h5, s5⟩ := h3.new n5 (.tup [.str "followers", .int r3])
    exact k _ _ _ (.followers r3.toNat) s5 h5 (.followers (by omega)) (.tup upd_same (.cons (.str _) (.cons (by rw [er]; exact .int _) .nil)))
  walk_at "st"
  refine ite2 (fun hr3 => ?_) (fun hr3 => ?_)
  · walk_at "rd"
    intro p5 n5
    obtain ⟨h5, s5⟩ := h1.new n5 (.tup [.str "sure"])
    exact k _ _ _ .sure s5 h5 .sure (.tup upd_same (.cons (.str _) .nil))
  walk_at "st"
  intro p2 n2
  obtain ⟨h2, s2⟩ := h1.new n2 (.lst [.int 0, .int 0, .int 1, .int 8])
  refine ⟨_, S, fr, p2, _, rfl, h2, .inl upd_same, by simp, by simp, fun H3 v3 h3 hv3 => ?_⟩
  obtain ⟨m, hm, rfl⟩ : ∃ m : Nat, m ≤ 8 ∧ v3 = vN m := by
    simp only [List.mem_cons, List.not_mem_nil, or_false] at hv3
    rcases hv3 with rfl | rfl | rfl | rfl
    · exact ⟨0, by omega, rfl⟩
    · exact ⟨0, by omega, rfl⟩
    · exact ⟨1, by omega, rfl⟩
    · exact ⟨8, by omega, rfl⟩
  refine ⟨_, S, fr, p, pr, rx, many, 99, m, es, rfl, h3, hnet.up s2, hne, hel, by omega, by omega, fun D4 H4 v q s4 h4 hq hqn hv => ?_⟩
  walk_at "rd"
  walk_at "rd"
  intro p5 n5
  obtain ⟨h5, s5⟩ := h4.new n5 (.tup [.str "say", v])
  exact k _ _ _ (.say q) (same_tr s2 (same_tr s4 s5)) h5 (.say hq (by omega)) (.tup upd_same (.cons (.str _) (.cons (hv.up s5) .nil)))
theorem sc_law_hole : FnScope ["_law_stock_here", "_law_low"] ["_law_stock_here"] (defScope s_law_hole) := ⟨rfl, rfl, rfl, by decide +kernel, rfl, by decide +kernel, by decide +kernel⟩
theorem c_law_hole (T : Txt K mg) : C8.Cal P w K mg base 3 "_law_hole" spHoleM [] := by
  have h_law_draw : C8.Cal P w K mg base 1 "_law_draw" spDraw [] := c_law_draw T
  have h_law_pick : C8.Cal P w K mg base 2 "_law_pick" spPick [] := c_law_pick T
  refine cal_mk T.d_law_hole sc_law_hole (fun _ _ _ _ _ _ us hl => match us, hl with | [_], _ => rfl) (fun vs H Q E h => ?_) (fun f cdv A outer s H vs Q E hr h => ?_)
  · obtain ⟨D, S, fr, rfl, _⟩ := h
    rfl
  obtain ⟨D, S, fr, rfl, h, k⟩ := h
  refine ⟨_, (pss_cons (ps_set (i := 1) sc_law_hole.nd rfl (Or.inl rfl) (C8.pe_c h_law_pick hr (by decide) rfl (pa_cons (pv 0) (pa_cons (pe_lst (pa_cons pe_int (pa_cons pe_int (pa_cons pe_int (pa_cons pe_int (pa_cons pe_int (pa_cons (pe_op op_pow pe_int pe_int) (pa_cons (C8.pe_c h_law_draw hr (by decide) rfl (pa_cons (pv 0) (pa_cons (pe_op op_pow pe_int pe_int) pa_nil))) pa_nil)))))))) pa_nil)))) (pss_one (ps_ret (pe_tup (pa_cons (pv 1) (pa_cons (C8.pe_c h_law_pick hr (by decide) rfl (pa_cons (pv 0) (pa_cons (pe_lst (pa_cons pe_non (pa_cons (pv 1) (pa_cons (pv 1) (pa_cons (pe_callB (call_min2 rfl) (by rfl) T.b_min boot_min (pa_cons (pe_op op_pow pe_int pe_int) (pa_cons (pe_op op_add (pe_op op_add (pv 1) pe_int) (C8.pe_c h_law_draw hr (by decide) rfl (pa_cons (pv 0) (pa_cons pe_int pa_nil)))) pa_nil))) pa_nil))))) pa_nil))) pa_nil)))))), ?_⟩
  show tSeq _ _ _ [some (.ref S), none] H
  walk_at "st"
  have cp : CPow 10 28 := ⟨by decide, by decide, by decide⟩
  refine ⟨cp, ⟨by decide, by decide, by decide⟩, D, S, fr, _, rfl, h, by decide +kernel, by decide +kernel, fun H1 r h1 r0 r1 => ?_⟩
  walk_at "rd"
  intro p1 n1
  have h2 := h1.put n1 (.lst [.int 0, .int 0, .int 1, .int 7, .int 120, .int (10 ^ Int.toNat 28), .int r])
  have r2 : r < 1000000 := r1
  refine ⟨D, S, _, p1, _, rfl, h2, .inr List.mem_cons_self, by simp, by simp, fun H3 v3 h3 hv3 => ?_⟩
  have e28 : (10 ^ Int.toNat 28 : Int) = ((10 ^ 28 : Nat) : Int) := by decide +kernel
  have b28 : (1000000 : Nat) ≤ 10 ^ 28 := by decide +kernel
  obtain ⟨lo, hlo, rfl⟩ : ∃ lo : Nat, lo ≤ 10 ^ 28 ∧ v3 = vN lo := by
    simp only [List.mem_cons, List.not_mem_nil, or_false] at hv3
    rcases hv3 with rfl | rfl | rfl | rfl | rfl | rfl | rfl
    · exact ⟨0, Nat.zero_le _, rfl⟩
    · exact ⟨0, Nat.zero_le _, rfl⟩
    · exact ⟨1, Nat.le_trans (by decide) b28, rfl⟩
    · exact ⟨7, Nat.le_trans (by decide) b28, rfl⟩
    · exact ⟨120, Nat.le_trans (by decide) b28, rfl⟩
    · exact ⟨10 ^ 28, Nat.le_refl _, congrArg V.int e28⟩
    · exact ⟨r.toNat, Nat.le_trans (by omega) b28, congrArg V.int (by omega)⟩
  walk_at "st"
  walk_at "st"
  refine ⟨cp, D, S, _, 99, rfl, h3, by decide, by decide, fun H4 r4 h4 y0 y1 => ?_⟩
  walk_at "rd"
  intro p5 n5
  have hlo2 : (lo : Int) ≤ ((10 ^ 28 : Nat) : Int) := by omega
  rw [e28]
  have h5 := h4.put n5 (.lst [.non, vN lo, vN lo, .int (if (lo : Int) + 1 + r4 < ((10 ^ 28 : Nat) : Int) then (lo : Int) + 1 + r4 else ((10 ^ 28 : Nat) : Int))])
  refine ⟨D, S, _, p5, _, rfl, h5, .inr List.mem_cons_self, by simp, by simp, fun H6 v6 h6 hv6 => ?_⟩
  generalize (10 ^ 28 : Nat) = B at *
  obtain ⟨hi, hhi, hv⟩ : ∃ hi : Option Nat, (∀ h, hi = some h → lo ≤ h ∧ h ≤ B) ∧ At D v6 (oN hi) := by
    simp only [List.mem_cons, List.not_mem_nil, or_false] at hv6
    rcases hv6 with rfl | rfl | rfl | rfl
    · exact ⟨none, (by intro h e; cases e), .non⟩
    · exact ⟨some lo, (by intro h e; cases e; exact ⟨Nat.le_refl _, hlo⟩), .int _⟩
    · exact ⟨some lo, (by intro h e; cases e; exact ⟨Nat.le_refl _, hlo⟩), .int _⟩
    · by_cases hc : (lo : Int) + 1 + r4 < (B : Int)
      · rw [if_pos hc]
        have e : V.int ((lo : Int) + 1 + r4) = vN (lo + 1 + r4.toNat) := congrArg V.int (by omega)
        rw [e]
        exact ⟨some (lo + 1 + r4.toNat), (by intro h e; cases e; exact ⟨by omega, by omega⟩), .int _⟩
      · rw [if_neg hc]
        exact ⟨some B, (by intro h e; cases e; exact ⟨hlo, Nat.le_refl _⟩), .int _⟩
  walk_at "rd"
  intro p7 n7
  obtain ⟨h7, s7⟩ := h6.new n7 (.tup [vN lo, v6])
  exact k _ _ _ lo hi s7 ((h7.drop 0).drop 0) hlo hhi (.tup upd_same (.cons (.int _) (.cons (hv.up s7) .nil)))
end
/-! ### text F4 -/
def spUnlike : Sp := fun vs H Q _ => ∃ (D : Hp) (S : Addr) (fr : List (Addr × HO)) (many : Nat), vs = [.ref S, vN many] ∧ Sk D S fr H ∧ many ≤ 26 ∧
  ∀ (D' H' : Hp) (v : V) (ns : List Str), Same D D' → Sk D' S fr H' → ns.length = many → ns.Nodup → (∀ n ∈ ns, Nm n) → At D' v (.list (ns.map .str)) → Q v H'
section
variable {P : Program} {w : World} {K : PySem.W.Frag} {mg : Str → Option Value} {base : Heap}
theorem sc_law_unlike : FnScope ["_law_stock_here", "_law_many", "_law_some", "_law_number_here"] ["_law_stock_here", "_law_many"] (defScope s_law_unlike) := ⟨rfl, rfl, rfl, by decide +kernel, rfl, by decide +kernel, by decide +kernel⟩
theorem c_law_unlike (T : Txt K mg) : C8.Cal P w K mg base 3 "_law_unlike" spUnlike [] := by
  have h_law_shuffled : C8.Cal P w K mg base 2 "_law_shuffled" spShuf [] := c_law_shuffled T
  refine cal_mk T.d_law_unlike sc_law_unlike (fun _ _ _ _ _ _ us hl => match us, hl with | [_, _], _ => rfl) (fun vs H Q E h => ?_) (fun f cdv A outer s H vs Q E hr h => ?_)
  · obtain ⟨D, S, fr, many, rfl, _⟩ := h
    rfl
  obtain ⟨D, S, fr, many, rfl, h, hm, k⟩ := h
  refine ⟨_, (pss_cons (ps_set (i := 2) sc_law_unlike.nd rfl (Or.inl rfl) (pe_lst (pa_cons pe_str (pa_cons pe_str (pa_cons pe_str (pa_cons pe_str (pa_cons pe_str (pa_cons pe_str (pa_cons pe_str (pa_cons pe_str (pa_cons pe_str (pa_cons pe_str (pa_cons pe_str (pa_cons pe_str (pa_cons pe_str (pa_cons pe_str pa_nil)))))))))))))))) (pss_cons (ps_set (i := 2) sc_law_unlike.nd rfl (Or.inl rfl) (pe_op op_cat (pv 2) (pe_lst (pa_cons pe_str (pa_cons pe_str pa_nil))))) (pss_cons (ps_set (i := 2) sc_law_unlike.nd rfl (Or.inl rfl) (pe_op op_cat (pv 2) (pe_lc (g := _) (tt := tYes) (te := _) (own := [("_law_number_here", 3)]) rfl sc_law_unlike.nd (pi_range1 (by rfl) T.b_range (pa_cons (pe_callB (call_max2 rfl) (by rfl) T.b_max boot_max (pa_cons pe_int (pa_cons (pe_op op_sub (pv 1) pe_int) pa_nil))) pa_nil)) (blkOk_by (by kernel_rfl)) (fun _ _ _ _ _ => (pg_name (i := 3) sc_law_unlike.nd rfl (.inl rfl))) (fun _ _ _ _ _ => pts_nil) (fun _ _ _ _ _ => (pe_op op_add_str pe_str (pe_callTy call_str_int (by rfl) T.b_str boot_str (pa_cons (pv 3) pa_nil))))))) (pss_one (ps_ret (pe_slice sl_list (C8.pe_c h_law_shuffled hr (by decide) rfl (pa_cons (pv 0) (pa_cons (pv 2) pa_nil))) po_none (po_some (pv 1)))))))), ?_⟩
  show tSeq _ _ _ [some (.ref S), some (vN many), none, none] H
  walk_at "st"
  intro p1 n1
  obtain ⟨h1, s1⟩ := h.new n1 (.lst (base14.map V.str))
  walk_at "st"
  intro p2 n2
  have h2 := h1.tmp n2 (.lst [.str "ask1", .str "p0"])
  refine ⟨_, h2.same _ _ upd_same, _, upd_same, by rw [sizeLine_eq]; decide, fun p3 n3 => ?_⟩
  obtain ⟨h3, s3⟩ := h2.new n3 (.lst (base14.map V.str ++ base2.map V.str))
  walk_at "st"
  have em : (if (many : Int) - 10 > 0 then (many : Int) - 10 else 0) = ((many - 10 : Nat) : Int) := by
    by_cases hc : (many : Int) - 10 > 0
    · rw [if_pos hc]
      omega
    · rw [if_neg hc]
      omega
  rw [em, Int.toNat_natCast]
  refine ⟨by omega, by omega, ?_⟩
  refine gathE ground_Sk src_range h3 (fun i => .str (("q" : Str) ++ num i)) (by rw [List.length_range]; omega) ?_ ?_
  · intro j y i D5 q5 H5 hi hy s5 h5 My Mn myes
    obtain rfl := hy.int_is
    have hi2 : i < many - 10 := by
      have := List.mem_of_getElem? hi
      simpa using this
    have ei : (0 : Int) + (i : Int) = ((i : Nat) : Int) := by omega
    rw [ei]
    walk_at "rd"
    refine ⟨num_lt (big (by omega)), ?_, myes _ _ _ same_rfl h5 (.str _)⟩
    have l1 : ((Str.ofString "q") : Str).length = 1 := by decide +kernel
    have l2 : (num i).length ≤ 2 := by
      rw [TL.len_tl]
      show (TL.tl (Str.ofString (toString ((i : Nat) : Int)))).length ≤ 2
      rw [TL.tl_num]
      exact TL.numL_len (by decide) (by omega)
    show ((Str.ofString "q") : Str).length + (num i).length ≤ sizeLine
    rw [l1, sizeLine_eq]
    omega
  intro D6 H6 v6 s6 h6 hv6
  obtain ⟨p6, x6, rfl, hp6, hx6⟩ := hv6.lst_is
  walk_at "rd"
  have hx7 : x6 = ((List.range (many - 10)).map fun i => ("q" : Str) ++ num i).map V.str := AtL.strs.mp (by rw [List.map_map]; exact hx6)
  subst hx7
  refine ⟨_, h6.same _ _ (s6 _ _ upd_same), _, h6.same _ _ hp6, sz (by simp [base14, base2]; omega), fun p7 n7 => ?_⟩
  obtain ⟨h7, s7⟩ := h6.new n7 (.lst (base14.map V.str ++ base2.map V.str ++ ((List.range (many - 10)).map fun i => ("q" : Str) ++ num i).map V.str))
  rw [show base14.map V.str ++ base2.map V.str ++ ((List.range (many - 10)).map fun i => ("q" : Str) ++ num i).map V.str = (namesK (many - 10)).map V.str by unfold namesK; rw [List.map_append, List.map_append]] at h7
  have hlen : (namesK (many - 10)).length = 16 + (many - 10) := by
    unfold namesK
    rw [List.length_append, List.length_append, List.length_map, List.length_range] <;> rfl
  refine ⟨_, S, fr, p7, _, rfl, h7, .inl upd_same, by rw [List.length_map, hlen]; omega, fun D8 H8 q ys s8 h8 hq hperm => ?_⟩
  obtain ⟨u, rfl, hu⟩ := perm_map_inv hperm _ rfl
  walk_at "rd"
  refine ⟨_, SqL.of (h8.same _ _ hq), fun p9 n9 => ?_⟩
  rw [cutV_to, ← List.map_take]
  obtain ⟨h9, s9⟩ := h8.new n9 (.lst ((u.take many).map V.str))
  have hsub := namesK_sub (k := many - 10) (by omega)
  refine k _ _ _ (u.take many) (same_tr s1 (same_tr s3 (same_tr s6 (same_tr s7 (same_tr s8 s9))))) h9 ?_ ?_ (fun n hn => ?_) (.lst upd_same (AtL.strs.mpr rfl))
  · rw [List.length_take, hu.length_eq, hlen]
    omega
  · exact (hu.nodup_iff.mpr (names16.2.sublist hsub)).sublist (List.take_sublist _ _)
  · exact names16.1 n (hsub.subset (hu.mem_iff.mp (List.mem_of_mem_take hn)))
end
/-! ### text F5 -/
theorem AtL.permE {α : Type} {D : Hp} {enc : α → PyData} {ys rv : List V} (h : ys.Perm rv) : ∀ as : List α, AtL D rv (as.map enc) → ∃ as' : List α, as'.Perm as ∧ AtL D ys (as'.map enc) := by
  induction h with
  | nil => intro as h; exact ⟨as, .refl _, h⟩
  | cons x h ih =>
    intro as h
    cases as with
    | nil => cases h
    | cons a as =>
      cases h with
      | cons h1 h2 =>
        obtain ⟨as', p, q⟩ := ih as h2
        exact ⟨a :: as', p.cons a, .cons h1 q⟩
  | swap x y t =>
    intro as h
    cases as with
    | nil => cases h
    | cons a as =>
      cases as with
      | nil => cases h with | cons _ h => cases h
      | cons b as =>
        cases h with
        | cons h1 h2 =>
          cases h2 with
          | cons h2 h3 => exact ⟨b :: a :: as, .swap _ _ _, .cons h2 (.cons h1 h3)⟩
  | trans _ _ ih1 ih2 =>
    intro as h
    obtain ⟨as', p, q⟩ := ih2 as h
    obtain ⟨as'', p', q'⟩ := ih1 as' q
    exact ⟨as'', p'.trans p, q'⟩
def EdgeOk (many : Nat) (e : Nat × Nat) : Prop := e.1 < e.2 ∧ e.2 < many
def spNet : Sp := fun vs H Q _ => ∃ (D : Hp) (S : Addr) (fr : List (Addr × HO)) (many more : Nat), vs = [.ref S, vN many, vN more] ∧ Sk D S fr H ∧ 2 ≤ many ∧ many ≤ 7 ∧ more ≤ 4 ∧
  ∀ (D' H' : Hp) (p pr : Addr) (rx : List V) (es : List (Nat × Nat)), Same D D' → Sk D' S fr H' → NetAt D' p pr rx many es → es ≠ [] → es.length ≤ 16 → (∀ e ∈ es, EdgeOk many e) → Q (.ref p) H'
section
variable {P : Program} {w : World} {K : PySem.W.Frag} {mg : Str → Option Value} {base : Heap}
theorem sc_law_net : FnScope ["_law_stock_here", "_law_many", "_law_more", "_law_spine", "_law_roads", "_law_is_double", "_law_turn", "_law_foot", "_law_road", "_law_place"] ["_law_stock_here", "_law_many", "_law_more"] (defScope s_law_net) := ⟨rfl, rfl, rfl, by decide +kernel, rfl, by decide +kernel, by decide +kernel⟩
theorem c_law_net (T : Txt K mg) : C8.Cal P w K mg base 3 "_law_net" spNet [] := by
  have h_law_draw : C8.Cal P w K mg base 1 "_law_draw" spDraw [] := c_law_draw T
  have h_law_pick : C8.Cal P w K mg base 2 "_law_pick" spPick [] := c_law_pick T
  have h_law_shuffled : C8.Cal P w K mg base 2 "_law_shuffled" spShuf [] := c_law_shuffled T
  refine cal_mk T.d_law_net sc_law_net (fun _ _ _ _ _ _ us hl => match us, hl with | [_, _, _], _ => rfl) (fun vs H Q E h => ?_) (fun f cdv A outer s H vs Q E hr h => ?_)
  · obtain ⟨D, S, fr, many, more, rfl, _⟩ := h
    rfl
  obtain ⟨D, S, fr, many, more, rfl, h, m2, m7, mo, k⟩ := h
  refine ⟨_, (pss_cons (ps_set (i := 3) sc_law_net.nd rfl (Or.inl rfl) (pe_op op_cat (pe_op op_cat (pe_lst (pa_cons pe_int pa_nil)) (pe_lc (g := _) (tt := _) (te := _) (own := [("_law_place", 9)]) rfl sc_law_net.nd (pi_range2 (by rfl) T.b_range (pa_cons pe_int (pa_cons (pe_op op_sub (pv 1) pe_int) pa_nil))) (blkOk_by (by kernel_rfl)) (fun _ _ _ _ _ => (pg_name (i := 9) sc_law_net.nd rfl (.inl rfl))) (fun _ _ _ _ _ => (pts_one (pt_cmpR op_gt (C8.pe_c h_law_draw hr (by decide) rfl (pa_cons (pv 0) (pa_cons pe_int pa_nil))) pe_int (nomark _)))) (fun _ _ _ _ _ => (pv 9)))) (pe_lst (pa_cons (pe_op op_sub (pv 1) pe_int) pa_nil)))) (pss_cons (ps_set (i := 4) sc_law_net.nd rfl (Or.inl rfl) (pe_listZip rfl (by rfl) T.b_list (by rfl) T.b_zip (pa_cons (pv 3) (pa_cons (pe_slice sl_list (pv 3) (po_some pe_int) po_none) pa_nil)))) (pss_cons (ps_set (i := 5) sc_law_net.nd rfl (Or.inr rfl) (pe_cmpR op_eq (C8.pe_c h_law_draw hr (by decide) rfl (pa_cons (pv 0) (pa_cons pe_int pa_nil))) pe_int (nomark _))) (pss_cons (ps_set (i := 4) sc_law_net.nd rfl (Or.inl rfl) (pe_op op_cat (pv 4) (pe_lc (g := _) (tt := _) (te := _) (own := [("_law_road", 8)]) rfl sc_law_net.nd (pi_list (pv 4)) (blkOk_by (by kernel_rfl)) (fun _ _ _ _ _ => (pg_name (i := 8) sc_law_net.nd rfl (.inl rfl))) (fun _ _ _ _ _ => (pts_one (PW.pt (pw_or (pt_val (pv 5)) (pw_or1 (pt_cmpR op_eq (C8.pe_c h_law_draw hr (by decide) rfl (pa_cons (pv 0) (pa_cons pe_int pa_nil))) pe_int (nomark _))))))) (fun _ _ _ _ _ => (pv 8))))) (pss_cons (ps_for PassesOwn.never rfl (pi_range1 (by rfl) T.b_range (pa_cons (pv 2) pa_nil)) (pg_name (i := 6) sc_law_net.nd rfl (.inl rfl)) (pss_cons (ps_set (i := 7) sc_law_net.nd rfl (Or.inl rfl) (C8.pe_c h_law_draw hr (by decide) rfl (pa_cons (pv 0) (pa_cons (pe_op op_sub (pv 1) pe_int) pa_nil)))) (pss_cons (ps_set (i := 8) sc_law_net.nd rfl (Or.inl rfl) (pe_tup (pa_cons (pv 7) (pa_cons (pe_op op_add (pe_op op_add (pv 7) pe_int) (C8.pe_c h_law_draw hr (by decide) rfl (pa_cons (pv 0) (pa_cons (pe_op op_sub (pe_op op_sub (pv 1) pe_int) (pv 7)) pa_nil)))) pa_nil)))) (pss_one (ps_expr (pe_bm PySem.F.plainAttrs_list PySem.F.slot_list_append PySem.F.type_list_append mt_append (pv 4) (pa_cons (pe_ifExp (pt_cmpR op_eq (C8.pe_c h_law_draw hr (by decide) rfl (pa_cons (pv 0) (pa_cons pe_int pa_nil))) pe_int (nomark _)) (C8.pe_c h_law_pick hr (by decide) rfl (pa_cons (pv 0) (pa_cons (pv 4) pa_nil))) (pv 8)) pa_nil))))))) (pss_one (ps_ret (pe_tup (pa_cons (pv 1) (pa_cons (pe_callTy call_tuple_ofN (by rfl) T.b_tuple boot_tuple (pa_cons (C8.pe_c h_law_shuffled hr (by decide) rfl (pa_cons (pv 0) (pa_cons (pv 4) pa_nil))) pa_nil)) pa_nil)))))))))), ?_⟩
  show tSeq _ _ _ [some (.ref S), some (vN many), some (vN more), none, none, none, none, none, none, none] H
  have gI : Ground (fun D fr H => Sk D S fr H) := ground_Sk
  walk_at "st"
  intro p1 n1
  have h1 := h.put n1 (.lst [.int 0])
  refine ⟨by omega, by omega, by omega, by omega, ?_⟩
  refine gathO gI (src_range (n := ((many : Int) - 1 - 1).toNat) (lo := 1)) h1 iN (fun i bs => bs.Pairwise (· < ·) ∧ (∀ b ∈ bs, 1 ≤ b ∧ b < 1 + i) ∧ bs.length ≤ i) ⟨.nil, by simp, Nat.le_refl _⟩ (fun i bs _ ho => ho.2.2) (by rw [List.length_range]; omega) ?_ ?_
  · rintro i x e D5 q5 H5 bs he hx ⟨o1, o2, o3⟩ s5 h5 My Mn myes mno
    obtain rfl := hx.int_is
    have hei : e = i := by
      have := (List.getElem?_eq_some_iff.mp he).2
      simpa using this.symm
    subst hei
    walk_at "rd"
    refine ⟨_, S, _, 3, rfl, h5, by decide, by decide, fun H6 r h6 r0 r1 => ?_⟩
    walk_at "rd"
    refine ite2 (fun hc => ?_) (fun hc => ?_)
    · refine myes _ _ _ (e + 1) same_rfl h6 (by rw [show ((1 : Int) + (e : Int)) = ((e + 1 : Nat) : Int) by omega]; exact .int _) ⟨?_, ?_, by simp; omega⟩
      · rw [List.pairwise_append]
        exact ⟨o1, List.pairwise_singleton _ _, fun a ha b hb => by rw [List.mem_singleton.mp hb]; have := o2 a ha; omega⟩
      · intro b hb
        rcases List.mem_append.mp hb with hb | hb
        · have := o2 b hb
          omega
        · rw [List.mem_singleton.mp hb]
          omega
    · exact mno _ _ same_rfl h6 ⟨o1, fun b hb => by have := o2 b hb; omega, by omega⟩
  intro D2 H2 q2 ws bs s2 h2 hws ⟨o1, o2, o3⟩
  obtain rfl := AtL.nats.mp hws
  rw [List.length_range] at o2 o3
  walk_at "rd"
  obtain ⟨h3, s3⟩ := h2.fix
  refine ⟨_, h3.get 0 rfl, _, h3.same _ _ upd_same, by simp; rw [sizeLine_eq]; omega, fun p3 n3 => ?_⟩
  have h4 := h3.tmp n3 (.lst ([.int 0] ++ bs.map vN))
  intro p4 n4
  have h5 := h4.tmp n4 (.lst [.int ((many : Int) - 1)])
  refine ⟨_, (upd_ne (ne_of_none upd_same n4)).trans upd_same, _, upd_same, by simp; rw [sizeLine_eq]; omega, fun p5 n5 => ?_⟩
  obtain ⟨h6, s6⟩ := h5.new n5 (.lst ([.int 0] ++ bs.map vN ++ [.int ((many : Int) - 1)]))
  have esp : [V.int 0] ++ bs.map vN ++ [.int ((many : Int) - 1)] = (0 :: (bs ++ [many - 1])).map vN := by
    rw [List.map_cons, List.map_append, List.map_singleton, show vN (many - 1) = .int ((many : Int) - 1) from congrArg V.int (by omega)] <;> rfl
  have hpw : (0 :: (bs ++ [many - 1])).Pairwise (· < ·) := by
    rw [List.pairwise_cons, List.pairwise_append]
    refine ⟨fun a ha => ?_, o1, List.pairwise_singleton _ _, fun a ha b hb => ?_⟩
    · rcases List.mem_append.mp ha with ha | ha
      · have := o2 a ha
        omega
      · rw [List.mem_singleton.mp ha]
        omega
    · rw [List.mem_singleton.mp hb]
      have := o2 a ha
      omega
  have hmem : ∀ a ∈ (0 :: (bs ++ [many - 1])), a < many := by
    intro a ha
    rcases List.mem_cons.mp ha with rfl | ha
    · omega
    · rcases List.mem_append.mp ha with ha | ha
      · have := o2 a ha
        omega
      · rw [List.mem_singleton.mp ha]
        omega
  have hsl : (0 :: (bs ++ [many - 1])).length ≤ 7 := by simp; omega
  have hsl2 : 2 ≤ (0 :: (bs ++ [many - 1])).length := by simp
  rw [esp] at h6 s6 ⊢
  generalize (0 :: (bs ++ [many - 1])) = sp at *
  have t6 := same_tr s2 (same_tr s3 s6)
  have e6 : upd (upd D2 q2 (.lst (bs.map vN))) p5 (.lst (sp.map vN)) p5 = some (.lst (sp.map vN)) := upd_same
  generalize upd (upd D2 q2 (.lst (bs.map vN))) p5 (.lst (sp.map vN)) = D6 at *
  walk_at "st"
  refine ⟨_, SqL.of (h6.same _ _ e6), fun p7 n7 => ?_⟩
  rw [show cutV (sp.map vN) (some 1) none = (sp.map vN).drop 1 from cutV_from (k := 1), ← List.map_drop]
  obtain ⟨h7, s7⟩ := h6.new n7 (.lst ((sp.drop 1).map vN))
  have e7 := s7 _ _ e6
  have f7 : upd D6 p7 (.lst ((sp.drop 1).map vN)) p7 = some (.lst ((sp.drop 1).map vN)) := upd_same
  generalize upd D6 p7 (.lst ((sp.drop 1).map vN)) = D7 at *
  refine ⟨_, SqL.of (h7.same _ _ e7), _, SqL.of (h7.same _ _ f7), fun q nq => ?_⟩
  have t7 := same_tr t6 s7
  refine ⟨fun i acc H' => ∃ (D' : Hp) (ds : List (Nat × Nat)), Same D7 D' ∧ Sk D' S ((q, .lst acc) :: (p1, .lst [.int 0]) :: fr) H' ∧ AtL D' acc (ds.map prN) ∧ ds.length = i ∧ i ≤ sp.length ∧ ∀ e ∈ ds, EdgeOk many e, ⟨D7, [], same_rfl, h7.put nq _, .nil, rfl, Nat.zero_le _, fun e he => absurd he (by simp)⟩, ?_, ?_, ?_⟩
  · rintro i acc H' ⟨D', ds, s', h', a', l', l2, _⟩
    refine ⟨SqL.of (h'.same _ _ (s' _ _ e7)), SqL.of (h'.same _ _ (s' _ _ f7)), h'.get 0 rfl, szl ?_⟩
    rw [a'.len, List.length_map]
    omega
  · rintro i acc H' Tp x y ⟨D', ds, s', h', a', l', l2, d'⟩ hx hy nT
    rw [List.getElem?_map, Option.map_eq_some_iff] at hx hy
    obtain ⟨a, ha, rfl⟩ := hx
    obtain ⟨b, hb, rfl⟩ := hy
    rw [List.getElem?_drop, Nat.add_comm] at hb
    obtain ⟨la, ea⟩ := List.getElem?_eq_some_iff.mp ha
    obtain ⟨lb, eb⟩ := List.getElem?_eq_some_iff.mp hb
    obtain ⟨h2', s2'⟩ := h'.new nT (.tup [vN a, vN b])
    refine ⟨_, ds ++ [(a, b)], same_tr s' s2', h2'.upd 0 rfl _, ?_, by rw [List.length_append, l'] <;> rfl, by omega, fun e he => ?_⟩
    · rw [List.map_append]
      exact (a'.up s2').snoc (.tup upd_same (.cons (.int _) (.cons (.int _) .nil)))
    · rcases List.mem_append.mp he with he | he
      · exact d' e he
      · rw [List.mem_singleton.mp he]
        refine ⟨?_, hmem b (List.mem_of_getElem? hb)⟩
        have := List.pairwise_iff_getElem.mp hpw i (i + 1) la lb (by omega)
        rw [ea, eb] at this
        exact this
  rintro acc H8 ⟨D8, ds, s8, h8, a8, l8, l9, d8⟩
  rw [List.length_map, List.length_map, List.length_drop] at l8
  obtain ⟨h9, s9⟩ := h8.fix
  have a9 := a8.up s9
  have e9 : upd D8 q (.lst acc) q = some (.lst acc) := upd_same
  have t9 := same_tr t7 (same_tr s8 s9)
  generalize upd D8 q (.lst acc) = D9 at *
  walk_at "st"
  refine ⟨D9, S, _, 2, rfl, h9, by decide, by decide, fun H10 r10 h10 y0 y1 => ?_⟩
  walk_at "st"
  walk_at "st"
  refine ⟨⟨_, SqL.of (h10.same _ _ e9)⟩, ?_⟩
  refine gathO gI (src_list (enc := prN) gI (.inl e9) a9) h10 prN (fun i bs => (∀ b ∈ bs, b ∈ ds) ∧ bs.length ≤ i) ⟨by simp, Nat.le_refl _⟩ (fun i bs _ ho => ho.2) (by omega) ?_ ?_
  · rintro i x e D5 q5 H5 bs' he hx ⟨u1, u2⟩ s5 h5 My Mn myes mno
    have hyes : ∀ D'' H3, Same D5 D'' → Sk D'' S (q5 :: (p1, .lst [.int 0]) :: fr) H3 → My x H3 := fun D'' H3 s3 h3 => by
      refine myes _ _ _ e s3 h3 (hx.up s3) ⟨fun b hb => ?_, by simp; omega⟩
      rcases List.mem_append.mp hb with hb | hb
      · exact u1 b hb
      · rw [List.mem_singleton.mp hb]
        exact List.mem_of_getElem? he
    walk_at "rd"
    refine ite2 (fun hc => ?_) (fun hc => ?_)
    · exact hyes _ _ same_rfl h5
    · refine ⟨D5, S, _, 2, rfl, h5, by decide, by decide, fun H6 r6 h6 z0 z1 => ?_⟩
      walk_at "rd"
      refine ite2 (fun hc => ?_) (fun hc => ?_)
      · exact hyes _ _ same_rfl h6
      · exact mno _ _ same_rfl h6 ⟨u1, by omega⟩
  intro D11 H11 q11 ws11 bs11 s11 h11 a11 ⟨u1, u2⟩
  obtain ⟨h12, s12⟩ := h11.fix
  walk_at "rd"
  have la := a9.len
  have lb := a11.len
  rw [List.length_map] at la lb
  refine ⟨_, h12.same _ _ (s12 _ _ (s11 _ _ e9)), _, h12.same _ _ upd_same, by rw [sizeLine_eq]; omega, fun p13 n13 => ?_⟩
  have h13 := h12.put n13 (.lst (acc ++ ws11))
  have a13 : AtL (upd D11 q11 (.lst ws11)) (acc ++ ws11) ((ds ++ bs11).map prN) := by
    rw [List.map_append]
    exact (a9.up (same_tr s11 s12)).app (a11.up s12)
  have d13 : ∀ e ∈ ds ++ bs11, EdgeOk many e := fun e he => by
    rcases List.mem_append.mp he with he | he
    · exact d8 e he
    · exact d8 e (u1 e he)
  have l13 : (ds ++ bs11).length ≤ 12 ∧ 1 ≤ (ds ++ bs11).length := by
    rw [List.length_append]
    omega
  have t13 := same_tr t9 (same_tr s11 s12)
  generalize upd D11 q11 (.lst ws11) = D13 at *
  generalize acc ++ ws11 = rv at *
  generalize ds ++ bs11 = es at *
  walk_at "st"
  refine ⟨by omega, by omega, ?_⟩
  refine loop_f walk_range (fun i σ H' => ∃ (D' : Hp) (rv : List V) (es : List (Nat × Nat)) (x3 x5 x6 x7 x8 x9 : Option V), σ = [some (.ref S), some (vN many), some (vN more), x3, some (.ref p13), x5, x6, x7, x8, x9] ∧ Same D13 D' ∧ Sk D' S ((p13, .lst rv) :: (p1, .lst [.int 0]) :: fr) H' ∧ AtL D' rv (es.map prN) ∧ (∀ e ∈ es, EdgeOk many e) ∧ es.length ≤ 12 + i ∧ 1 ≤ es.length)
    ⟨D13, rv, es, _, _, _, _, _, _, rfl, same_rfl, h13, a13, d13, l13.1, l13.2⟩ (fun _ _ _ _ _ => trivial) ?_ ?_
  · rintro i x σ H4 H5 hi ⟨D4, rv, es, x3, x5, x6, x7, x8, x9, rfl, s4, h4, a4, d4, l4, l5⟩ ⟨rfl, rfl⟩ N hN
    walk_at "st"
    walk_at "st"
    refine ⟨D4, S, _, _, rfl, h4, by omega, by omega, fun H5 r5 h5 y0 y1 => ?_⟩
    walk_at "st"
    walk_at "st"
    refine ⟨D4, S, _, _, rfl, h5, by omega, by omega, fun H6 r6 h6 z0 z1 => ?_⟩
    walk_at "rd"
    intro p7 n7
    obtain ⟨h7, s7⟩ := h6.new n7 (.tup [.int r5, .int (r5 + 1 + r6)])
    have e5 : V.int r5 = vN r5.toNat := congrArg V.int (by omega)
    have e6 : V.int (r5 + 1 + r6) = vN (r5.toNat + 1 + r6.toNat) := congrArg V.int (by omega)
    have ok7 : EdgeOk many (r5.toNat, r5.toNat + 1 + r6.toNat) := ⟨by omega, by show r5.toNat + 1 + r6.toNat < many; omega⟩
    have at7 : At (upd D4 p7 (.tup [.int r5, .int (r5 + 1 + r6)])) (.ref p7) (prN (r5.toNat, r5.toNat + 1 + r6.toNat)) := by
      refine .tup upd_same ?_
      rw [e5, e6]
      exact .cons (.int _) (.cons (.int _) .nil)
    have a7 := a4.up s7
    have la := a4.len
    rw [List.length_map] at la
    have fin : ∀ (H8 : Hp) (x : V) (e : Nat × Nat) (y6 y7 y8 : Option V), Sk (upd D4 p7 (.tup [.int r5, .int (r5 + 1 + r6)])) S ((p13, .lst rv) :: (p1, .lst [.int 0]) :: fr) H8 → At (upd D4 p7 (.tup [.int r5, .int (r5 + 1 + r6)])) x (prN e) → EdgeOk many e →
        ∃ xs, H8 p13 = some (.lst xs) ∧ xs.length < sizeLine ∧ N [some (.ref S), some (vN many), some (vN more), x3, some (.ref p13), x5, y6, y7, y8, x9] (upd H8 p13 (.lst (xs ++ [x]))) := by
      intro H8 x e y6 y7 y8 h8 hx he
      refine ⟨_, h8.get 0 rfl, szl (by omega), hN _ _ ⟨_, rv ++ [x], es ++ [e], _, _, _, _, _, _, rfl, same_tr s4 s7, h8.upd 0 rfl _, ?_, ?_, by rw [List.length_append, List.length_singleton]; omega, by rw [List.length_append]; omega⟩⟩
      · rw [List.map_append]
        exact a7.snoc hx
      · intro z hz
        rcases List.mem_append.mp hz with hz | hz
        · exact d4 z hz
        · rw [List.mem_singleton.mp hz]
          exact he
    walk_at "st"
    refine ⟨.inl ⟨rfl, _, SqL.of (h7.get 0 rfl)⟩, ?_⟩
    refine ⟨_, S, _, 7, rfl, h7, by decide, by decide, fun H8 r8 h8 w0 w1 => ?_⟩
    walk_at "rd"
    refine ite2 (fun hc => ?_) (fun hc => ?_)
    · refine ⟨_, S, _, p13, _, rfl, h8, .inr List.mem_cons_self, by intro z; rw [z] at la; simp at la; omega, by omega, fun H9 v9 h9 hv9 => ?_⟩
      obtain ⟨j, hj⟩ := List.mem_iff_getElem?.mp hv9
      obtain ⟨d0, hd0, hat⟩ := a7.getV hj
      rw [List.getElem?_map, Option.map_eq_some_iff] at hd0
      obtain ⟨e, he, rfl⟩ := hd0
      exact fin H9 v9 e _ _ _ h9 hat (d4 e (List.mem_of_getElem? he))
    · exact fin H8 _ _ _ _ _ h8 at7 ok7
  · rintro σ H4 ⟨D4, rv, es, x3, x5, x6, x7, x8, x9, rfl, s4, h4, a4, d4, l4, l5⟩
    rw [Int.toNat_natCast] at l4
    have la := a4.len
    rw [List.length_map] at la
    walk_at "st"
    walk_at "st"
    refine ⟨D4, S, _, p13, _, rfl, h4, .inr List.mem_cons_self, by omega, fun D5 H5 q5 ys s5 h5 hq hperm => ?_⟩
    obtain ⟨es', hes, aes⟩ := AtL.permE hperm es (a4.up s5)
    walk_at "rd"
    refine ⟨_, .inl ⟨SqL.of (h5.same _ _ hq), fun p6 n6 p7 n7 => ?_⟩⟩
    obtain ⟨h6, s6⟩ := h5.new n6 (.tup ys)
    obtain ⟨h7, s7⟩ := h6.new n7 (.tup [vN many, .ref p6])
    have le := hes.length_eq
    refine k _ _ p7 p6 ys es' (same_tr t13 (same_tr s4 (same_tr s5 (same_tr s6 s7)))) ((h7.drop 0).drop 0) ⟨upd_same, s7 _ _ upd_same, (aes.up s6).up s7⟩ (fun z => by rw [z] at le; simp at le; omega) (by omega) (fun e he => d4 e (hes.mem_iff.mp he))
end
/-! ### text F6 -/
def spTrips : Sp := fun vs H Q _ => ∃ (I : Hp → List (Addr × HO) → Hp → Prop) (D : Hp) (fr : List (Addr × HO)) (p pr : Addr) (rx : List V) (many : Nat) (es : List (Nat × Nat)), Ground I ∧ vs = [.ref p] ∧ I D fr H ∧ NetAt D p pr rx many es ∧ es.length ≤ 16 ∧ (∀ e ∈ es, EdgeOk many e) ∧ many ≤ 7 ∧
  ∀ (D' H' : Hp) (q : Addr) (wv : List V) (ts : List (List Nat)), Same D D' → I D' fr H' → D' q = some (.lst wv) → AtL D' wv (ts.map tup1) → ts.length ≤ 65536 → (∀ t ∈ ts, Path es 0 t (many - 1) ∧ t ≠ [] ∧ t.length ≤ 6) → Q (.ref q) H'
theorem pairUp {D : Hp} : ∀ {fv : List V} {ts : List (List Nat)}, AtL D fv (ts.map tup1) → ∃ ps : List (V × List Nat), ps.map (·.1) = fv ∧ ps.map (·.2) = ts ∧ ∀ q ∈ ps, At D q.1 (tup1 q.2)
  | [], [], _ => ⟨[], rfl, rfl, by simp⟩
  | v :: fv, t :: ts, h => by
    cases h with
    | cons h1 h2 =>
      obtain ⟨ps, e1, e2, e3⟩ := pairUp h2
      refine ⟨(v, t) :: ps, by rw [List.map_cons, e1], by rw [List.map_cons, e2], fun q hq => ?_⟩
      rcases List.mem_cons.mp hq with rfl | hq
      · exact h1
      · exact e3 q hq
  | [], t :: ts, h => by cases h
  | v :: fv, [], h => by cases h
theorem unpair {D : Hp} : ∀ {ps : List (V × List Nat)}, (∀ q ∈ ps, At D q.1 (tup1 q.2)) → AtL D (ps.map (·.1)) ((ps.map (·.2)).map tup1)
  | [], _ => .nil
  | q :: ps, h => .cons (h q List.mem_cons_self) (unpair fun z hz => h z (List.mem_cons_of_mem _ hz))
theorem AtL.unsnoc {D : Hp} {t : List Nat} : ∀ {wv : List V} {ts : List (List Nat)}, AtL D wv ((ts ++ [t]).map tup1) → ∃ wv' x, wv = wv' ++ [x] ∧ AtL D wv' (ts.map tup1) ∧ At D x (tup1 t)
  | [], [], h => by cases h
  | v :: wv, [], h => by
    cases h with
    | cons h1 h2 =>
      cases h2
      exact ⟨[], v, rfl, .nil, h1⟩
  | [], t' :: ts, h => by cases h
  | v :: wv, t' :: ts, h => by
    cases h with
    | cons h1 h2 =>
      obtain ⟨wv', x, e, a, b⟩ := AtL.unsnoc h2
      exact ⟨v :: wv', x, by rw [e] <;> rfl, .cons h1 a, b⟩
section
variable {P : Program} {w : World} {K : PySem.W.Frag} {mg : Str → Option Value} {base : Heap}
theorem sc_law_trips : FnScope ["_law_net_here", "_law_many", "_law_roads", "_law_found", "_law_waiting", "_law_trip", "_law_here", "_law_spot", "_law_road"] ["_law_net_here"] (defScope s_law_trips) := ⟨rfl, rfl, rfl, by decide +kernel, rfl, by decide +kernel, by decide +kernel⟩
theorem c_law_trips (T : Txt K mg) : C8.Cal P w K mg base 1 "_law_trips" spTrips [] := by
  refine cal_mk T.d_law_trips sc_law_trips (fun _ _ _ _ _ _ us hl => match us, hl with | [_], _ => rfl) (fun vs H Q E h => ?_) (fun f cdv A outer s H vs Q E hr h => ?_)
  · obtain ⟨I, D, fr, p, pr, rx, many, es, gI, rfl, _⟩ := h
    rfl
  obtain ⟨I, D, fr, p, pr, rx, many, es, gI, rfl, h, hnet, hel, hok, hmany, k⟩ := h
  refine ⟨_, (pss_cons (ps_asg (pv 0) (pg_tup rfl (pgs_cons (pg_name (i := 1) sc_law_trips.nd rfl (.inl rfl)) (pgs_cons (pg_name (i := 2) sc_law_trips.nd rfl (.inl rfl)) pgs_nil)))) (pss_cons (ps_par (i := 3) (j := 4) rfl sc_law_trips.nd rfl rfl (by decide) rfl rfl (pa_cons (pe_lst pa_nil) (pa_cons (pe_lc (g := (gTup K 2 _)) (tt := (tTest (tOp _ (tOp (rIxT K) _ _) _))) (te := _) (own := [("_law_spot", 7), ("_law_road", 8)]) rfl sc_law_trips.nd (pi_enumT (by rfl) T.b_enumerate (pa_cons (pv 2) pa_nil)) (blkOk_by (by kernel_rfl)) (fun _ _ _ _ _ => (pg_tup rfl (pgs_cons (pg_name (i := 7) sc_law_trips.nd rfl (.inl rfl)) (pgs_cons (pg_name (i := 8) sc_law_trips.nd rfl (.inl rfl)) pgs_nil)))) (fun _ _ _ _ _ => (pts_one (pt_cmpR op_eq (pe_ix ix_tup (pv 8) pe_int (fun _ _ => rfl)) pe_int (nomark _)))) (fun _ _ _ _ _ => (pe_tup (pa_cons (pv 7) pa_nil)))) pa_nil)) (by rfl)) (pss_cons (ps_while PassesOwn.never (pt_cmpR (op_neD hr.units) (pv 4) (pe_lst pa_nil) (nomark _)) (pss_cons (ps_set (i := 5) sc_law_trips.nd rfl (Or.inr rfl) (pe_bm0 PySem.F.plainAttrs_list PySem.F.slot_list_pop PySem.F.type_list_pop mt_pop (pv 4))) (pss_cons (ps_set (i := 6) sc_law_trips.nd rfl (Or.inr rfl) (pe_ix ix_tup (pe_ix ix_tup (pv 2) (pe_ix ix_tup (pv 5) (pe_un un_neg pe_int) (fun _ _ => rfl)) (fun _ _ => rfl)) pe_int (fun _ _ => rfl))) (pss_one (ps_if (pt_cmpR op_eq (pv 6) (pe_op op_sub (pv 1) pe_int) (nomark _)) (pss_one (ps_expr (pe_bm PySem.F.plainAttrs_list PySem.F.slot_list_append PySem.F.type_list_append mt_append (pv 3) (pa_cons (pv 5) pa_nil)))) (pss_one (ps_expr (pe_bm PySem.F.plainAttrs_list PySem.F.slot_list_extend PySem.F.type_list_extend mt_extend (pv 4) (pa_cons (pe_lc (g := (gTup K 2 _)) (tt := (tTest (tOp _ (tOp (rIxT K) _ _) _))) (te := (tOp (rCatA K) _ _)) (own := [("_law_spot", 7), ("_law_road", 8)]) rfl sc_law_trips.nd (pi_enumT (by rfl) T.b_enumerate (pa_cons (pv 2) pa_nil)) (blkOk_by (by kernel_rfl)) (fun _ _ _ _ _ => (pg_tup rfl (pgs_cons (pg_name (i := 7) sc_law_trips.nd rfl (.inl rfl)) (pgs_cons (pg_name (i := 8) sc_law_trips.nd rfl (.inl rfl)) pgs_nil)))) (fun _ _ _ _ _ => (pts_one (pt_cmpR op_eq (pe_ix ix_tup (pv 8) pe_int (fun _ _ => rfl)) (pv 6) (nomark _)))) (fun _ _ _ _ _ => (pe_op op_catA (pv 5) (pe_tup (pa_cons (pv 7) pa_nil))))) pa_nil))))))))) (pss_one (ps_ret (pe_callB (cr_sortedTup hr) (by rfl) T.b_sorted boot_sorted (pa_cons (pv 3) pa_nil))))))), ?_⟩
  show tSeq _ _ _ [some (.ref p), none, none, none, none, none, none, none, none] H
  have n0 := gI.same h _ _ hnet.net
  have hlt : ∀ e ∈ es, e.1 < e.2 := fun e he => (hok e he).1
  walk_at "st"
  walk_at "st"
  refine ⟨_, SqT.of n0, rfl, _, _, rfl, _, _, rfl, rfl, ?_⟩
  walk_at "st"
  intro pf nf
  have h1 := gI.put (.lst []) h nf
  refine ⟨⟨_, SqT.of (gI.same h1 _ _ hnet.roads)⟩, ?_⟩
  refine gathFm gI (src_enumT gI (.inl hnet.roads) hnet.at_) h1 tup1 (onF 0 []) (by rw [List.length_zipIdx]; omega) ?_ ?_
  · intro j y z D5 q5 H5 hz hy s5 h5 My Mn myes mno
    obtain ⟨b, y1, y2, rfl, hb, hy1, hy2⟩ := tu2_at hy
    obtain ⟨c, rfl, hc⟩ := prN_at hy2
    obtain rfl := hy1.int_is
    have hb5 := gI.same h5 _ _ hb
    have hc5 := gI.same h5 _ _ hc
    walk_at "rd"
    refine ⟨_, SqT.of hb5, rfl, _, _, rfl, _, _, rfl, rfl, ?_⟩
    walk_at "rd"
    walk_at "ux"
    refine ite2 (fun q => ?_) (fun q => ?_)
    · intro p6 n6
      obtain ⟨h6, s6⟩ := gI.new (.tup [vN z.2]) h5 n6
      exact myes _ _ _ [z.2] s6 h6 (.tup upd_same (.cons (.int _) .nil)) (if_pos (by omega))
    · exact mno _ _ same_rfl h5 (if_neg (by omega))
  intro D1 H1 pw ws s1 h2 hws
  have w0 := on_wt hlt 0 []
  have c0 : (2 : Nat) ^ cnt es 0 ≤ 65536 := Nat.le_trans (Nat.pow_le_pow_right (by decide) (Nat.le_trans (cnt_le es 0) hel)) (by decide)
  have g0 : ∀ t ∈ es.zipIdx.filterMap (onF 0 []), ∃ v l a, Path es 0 t v ∧ t.getLast? = some l ∧ es[l]? = some (a, v) := fun t ht => by
    obtain ⟨i, e, he, hv, rfl⟩ := on_mem ht
    refine ⟨e.2, i, e.1, .cons (show es[i]? = some (0, e.2) by rw [he, ← hv]) (.nil _), rfl, he⟩
  generalize es.zipIdx.filterMap (onF 0 []) = ts0 at *
  walk_at "st"
  obtain ⟨W, hW⟩ : ∃ W : Nat → L2.St → Hp → Prop, W = fun m σ H' => ∃ (D' : Hp) (fv wv : List V) (ft wts : List (List Nat)) (x5 x6 x7 x8 : Option V), σ = [some (.ref p), some (vN many), some (.ref pr), some (.ref pf), some (.ref pw), x5, x6, x7, x8] ∧ Same D D' ∧ I D' ((pw, .lst wv) :: (pf, .lst fv) :: fr) H' ∧ AtL D' wv (wts.map tup1) ∧ AtL D' fv (ft.map tup1) ∧ m = (wts.map (wt es)).sum ∧ ft.length + m ≤ 65536 ∧
      (∀ t ∈ wts, ∃ v l a, Path es 0 t v ∧ t.getLast? = some l ∧ es[l]? = some (a, v)) ∧ ∀ t ∈ ft, Path es 0 t (many - 1) ∧ t ≠ [] := ⟨_, rfl⟩
  refine loop_w W (ts0.map (wt es)).sum (by rw [hW]; exact
    ⟨D1, [], ws, [], ts0, _, _, _, _, rfl, s1, h2, hws, .nil, rfl, by simp; omega, g0, by simp⟩) ?_
  intro m σ H2 hw
  rw [hW] at hw
  obtain ⟨D2, fv, wv, ft, wts, x5, x6, x7, x8, rfl, s2, h2, aw, af, rfl, hm, gw, gf⟩ := hw
  walk_at "rd"
  intro p3 n3
  have h3 := gI.tmp (.lst []) h2 n3
  refine ⟨_, .lst (SqL.of (gI.get 0 h3 rfl)) (AtL.dp (gI.same h3) aw), _, .lst (SqL.of upd_same) .nil, shaped_trips wts, shaped_nil, ?_⟩
  rw [eqv_nil]
  rcases List.eq_nil_or_concat wts with rfl | ⟨ws', t, rfl⟩
  · refine if_ne (by rfl) ?_
    walk_at "rd"
    obtain ⟨ps, e1, e2, e3⟩ := pairUp af
    subst e1 e2
    refine ⟨ps.map fun q => (q.1, q.2.map fun n : Nat => (n : Int)), ?_, ?_, ?_⟩
    · rw [List.map_map]
      exact SqL.of (gI.get 1 h3 rfl)
    · intro z hz
      obtain ⟨q, hq, rfl⟩ := List.mem_map.mp hz
      refine ⟨?_, ?_⟩
      · have := At.dp (K := K) (gI.same h3) (e3 q hq)
        unfold tupI
        rw [List.map_map]
        exact this
      · have := (gf q.2 (List.mem_map_of_mem hq)).2
        simpa using this
    · intro zs' p4 hperm n4
      obtain ⟨ps', rfl, hps⟩ := perm_map_inv hperm _ rfl
      obtain ⟨h4, s4⟩ := gI.new (.lst ((ps'.map fun q => (q.1, q.2.map fun n : Nat => (n : Int))).map (·.1))) h3 n4
      have hin : ∀ q ∈ ps', q ∈ ps := fun q hq => hps.mem_iff.mp hq
      refine k _ _ p4 _ (ps'.map (·.2)) (same_tr s2 s4) (gI.drop (gI.drop h4 0) 0) upd_same ?_ ?_ ?_
      · have e : (ps'.map fun q => (q.1, q.2.map fun n : Nat => (n : Int))).map (·.1) = ps'.map (·.1) := by rw [List.map_map] <;> rfl
        rw [e] at s4 ⊢
        exact (unpair fun q hq => (e3 q (hin q hq))).up s4
      · have := hps.length_eq
        rw [List.length_map] at hm ⊢
        omega
      · intro t ht
        obtain ⟨q, hq, rfl⟩ := List.mem_map.mp ht
        obtain ⟨g1, g2⟩ := gf q.2 (List.mem_map_of_mem (hin q hq))
        refine ⟨g1, g2, ?_⟩
        have := g1.len hlt
        omega
  · rw [List.concat_eq_append] at *
    refine if_eq (by cases ws' <;> rfl) ?_
    refine stepW fun N hN => ?_
    walk_at "st"
    obtain ⟨wv', x, rfl, aw', hx⟩ := AtL.unsnoc aw
    obtain ⟨v, l, a, gp, gl, ge⟩ := gw t (by simp)
    obtain ⟨pt, rfl, hpt⟩ := t1_at hx
    rw [List.map_append, List.sum_append, List.map_singleton, List.sum_singleton] at hm hN
    have hwt : wt es t = 2 ^ cnt es v := by
      unfold wt hdOf
      rw [gl]
      show 2 ^ cnt es (es.getD l (0, 0)).2 = _
      rw [List.getD_eq_getElem?_getD, ge] <;> rfl
    have hw1 := wt_pos es t
    have hlw := sum_len (wt es) (wt_pos es) ws'
    have lw := aw'.len
    have lf := af.len
    rw [List.length_map] at lw lf
    refine ⟨.inl ⟨rfl, _, SqL.of (gI.get 0 h3 rfl)⟩, _, gI.get 0 h3 rfl, .ref pt, by simp, ?_⟩
    rw [List.dropLast_concat]
    have h4 := gI.upd 0 (.lst wv') h3 rfl
    have hpt4 := gI.same h4 _ _ hpt
    have hnet4 := hnet.up s2
    obtain ⟨g, hg, hgD⟩ := hnet4.get ge
    walk_at "st"
    refine ⟨_, SqT.of hpt4, vN l, atI_last (by rw [List.getLast?_map, gl] <;> rfl), _, _, rfl, SqT.of (gI.same h4 _ _ hnet4.roads), _, atI_of rfl hg, ?_⟩
    walk_at "rd"
    refine ⟨_, SqT.of (gI.same h4 _ _ hgD), _, rfl, ?_⟩
    walk_at "st"
    have gw' : ∀ t' ∈ ws', ∃ v l a, Path es 0 t' v ∧ t'.getLast? = some l ∧ es[l]? = some (a, v) := fun t' ht => gw t' (List.mem_append_left _ ht)
    refine ite2 (fun hc => ?_) (fun hc => ?_)
    · refine ⟨.inl ⟨rfl, _, SqL.of (gI.get 1 h4 rfl)⟩, _, gI.get 1 h4 rfl, szl (by omega), ?_⟩
      have h5 := gI.upd 1 (.lst (fv ++ [.ref pt])) h4 rfl
      have q1 : AtL D2 (fv ++ [.ref pt]) ((ft ++ [t]).map tup1) := by
        rw [List.map_append]
        exact af.snoc (.tup hpt (AtL.nats.mpr rfl))
      have q2 : (ft ++ [t]).length + (ws'.map (wt es)).sum ≤ 65536 := by
        rw [List.length_append, List.length_singleton]
        omega
      have q3 : ∀ t' ∈ ft ++ [t], Path es 0 t' (many - 1) ∧ t' ≠ [] := by
        intro t' ht
        rcases List.mem_append.mp ht with ht | ht
        · exact gf t' ht
        · rw [List.mem_singleton.mp ht]
          have : v = many - 1 := by omega
          rw [← this]
          exact ⟨gp, fun z => (by rw [z] at gl; cases gl)⟩
      exact hN _ _ _ (show (ws'.map (wt es)).sum < _ by omega) (by rw [hW]; exact ⟨D2, fv ++ [V.ref pt], wv', ft ++ [t], ws', _, _, _, _, rfl, s2, h5, aw', q1, rfl, q2, gw', q3⟩)
    · refine ⟨.inl ⟨rfl, _, SqL.of (gI.get 0 h4 rfl)⟩, ⟨_, SqT.of (gI.same h4 _ _ hnet4.roads)⟩, ?_⟩
      refine gathFm gI (src_enumT gI (.inl hnet4.roads) hnet4.at_) h4 tup1 (onF v t) (by rw [List.length_zipIdx]; omega) ?_ ?_
      · intro j y z D5 q5 H5 hz hy s5 h5 My Mn myes mno
        obtain ⟨b, y1, y2, rfl, hb, hy1, hy2⟩ := tu2_at hy
        obtain ⟨c, rfl, hc⟩ := prN_at hy2
        obtain rfl := hy1.int_is
        have hb5 := gI.same h5 _ _ hb
        have hc5 := gI.same h5 _ _ hc
        walk_at "rd"
        refine ⟨_, SqT.of hb5, rfl, _, _, rfl, _, _, rfl, rfl, ?_⟩
        walk_at "rd"
        walk_at "ux"
        refine ite2 (fun q => ?_) (fun q => ?_)
        · intro p6 n6
          have h6 := gI.tmp (.tup [vN z.2]) h5 n6
          have hl6 := gp.len hlt
          refine ⟨_, SqT.of (gI.same h6 _ _ (s5 _ _ hpt)), _, SqT.of upd_same, sz (by simp; have := (hok _ (List.mem_of_getElem? ge)).2; simp at this; omega), fun z => ?_, fun _ z => absurd z (by simp), fun _ _ p7 n7 => ?_⟩
          · have : t = [] := by simpa using z
            rw [this] at gl
            cases gl
          obtain ⟨h7, s7⟩ := gI.new (.tup (t.map vN ++ [vN z.2])) h6 n7
          refine myes _ _ _ (t ++ [z.2]) s7 h7 (.tup upd_same (AtL.nats.mpr (by rw [List.map_append] <;> rfl))) (if_pos (by omega))
        · exact mno _ _ same_rfl h5 (if_neg (by omega))
      intro D5 H5 pc wc s5 h5 ac
      have won := on_wt hlt v t
      have gon : ∀ t' ∈ es.zipIdx.filterMap (onF v t), ∃ v l a, Path es 0 t' v ∧ t'.getLast? = some l ∧ es[l]? = some (a, v) := fun t' ht => by
        obtain ⟨i, e, he, hv, rfl⟩ := on_mem ht
        exact ⟨e.2, i, e.1, gp.snoc (show es[i]? = some (v, e.2) by rw [he, ← hv]), by simp, he⟩
      have lon := sum_len (wt es) (wt_pos es) (es.zipIdx.filterMap (onF v t))
      generalize es.zipIdx.filterMap (onF v t) = cs at *
      have lc := ac.len
      rw [List.length_map] at lc
      have h6 := gI.upd 1 (.lst (wv' ++ wc)) h5 rfl
      rw [hwt] at hm hN
      refine ⟨_, rfl, _, gI.get 1 h5 rfl, _, gI.get 0 h5 rfl, sz (by omega), ?_⟩
      have q1 : AtL D5 (wv' ++ wc) ((ws' ++ cs).map tup1) := by
        rw [List.map_append]
        exact (aw'.up s5).app ac
      have q2 : ft.length + ((ws' ++ cs).map (wt es)).sum ≤ 65536 := by
        rw [List.map_append, List.sum_append]
        omega
      have q3 : ∀ t' ∈ ws' ++ cs, ∃ v l a, Path es 0 t' v ∧ t'.getLast? = some l ∧ es[l]? = some (a, v) := by
        intro t' ht
        rcases List.mem_append.mp ht with ht | ht
        · exact gw' t' ht
        · exact gon t' ht
      exact hN _ _ _ (show ((ws' ++ cs).map (wt es)).sum < _ by rw [List.map_append, List.sum_append]; omega) (by rw [hW]; exact ⟨D5, fv, wv' ++ wc, ft, ws' ++ cs, _, _, _, _, rfl, same_tr s2 s5, gI.drop h6 0, q1, af.up s5, rfl, q2, q3, gf⟩)
end
/-! ### text F7 -/
def spStock (K : PySem.W.Frag) : Sp := fun vs H Q _ => ∃ (D : Hp) (fr : List (Addr × HO)) (a : Addr) (ns : List Int), vs = [.ref a] ∧ Hs D fr H ∧ SqL K H a (ns.map V.int) ∧
  ∀ (D' H' : Hp) (S : Addr), Same D D' → Sk D' S fr H' → Q (.ref S) H'
def spMixed : Sp := fun vs H Q _ => ∃ (D : Hp) (S : Addr) (fr : List (Addr × HO)) (p : Addr) (d : Deal), vs = [.ref S, .ref p] ∧ Sk D S fr H ∧ DealAt D p d ∧ d.roads.length ≤ 1000 ∧ d.known.length ≤ 1000 ∧ d.asks.length ≤ 1000 ∧ (∀ k ∈ d.known, k.2.length ≤ 1000 ∧ ∀ i ∈ k.2, i < d.roads.length) ∧ (∀ a ∈ d.asks, a.Lt d.roads.length) ∧
  ∀ (D' H' : Hp) (q : Addr) (o : List Nat) (roads : List Rd) (known : List (Nat × List Nat)) (asks : List As), Same D D' → Sk D' S fr H' → o.Perm (List.range d.roads.length) → roads.length = o.length → (∀ (j i : Nat), o[j]? = some i → roads[j]? = d.roads[i]?) →
    known = d.known.map (fun k => (k.1, k.2.map fun i => o.idxOf i)) → asks.length = d.asks.length → (∀ (j : Nat) (a b : As), d.asks[j]? = some a → asks[j]? = some b → MvA (fun i => o.idxOf i) a b) →
    DealAt D' q ⟨d.places, d.inn, d.out, roads, known, asks⟩ → Q (.ref q) H'
theorem dput_roads {H : Hp} {q : Addr} {d : Deal} {vp vr vk va : V} (v : V) (e : H q = some (dealO d vp vr vk va)) : DPut H q (.str "roads") v (upd H q (dealO d vp v vk va)) := DPut.k (k := key "roads") e (by rw [sizeLine_eq]; show 6 < 16777216; decide)
theorem dput_known {H : Hp} {q : Addr} {d : Deal} {vp vr vk va : V} (v : V) (e : H q = some (dealO d vp vr vk va)) : DPut H q (.str "known") v (upd H q (dealO d vp vr v va)) := DPut.k (k := key "known") e (by rw [sizeLine_eq]; show 6 < 16777216; decide)
theorem dput_asks {H : Hp} {q : Addr} {d : Deal} {vp vr vk va : V} (v : V) (e : H q = some (dealO d vp vr vk va)) : DPut H q (.str "asks") v (upd H q (dealO d vp vr vk v)) := DPut.k (k := key "asks") e (by rw [sizeLine_eq]; show 6 < 16777216; decide)
section
variable {P : Program} {w : World} {K : PySem.W.Frag} {mg : Str → Option Value} {base : Heap}
theorem sc_law_mixed_net : FnScope ["_law_stock_here", "_law_deal_here", "_law_order_here", "_law_fresh", "_law_spot", "_law_times", "_law_trip", "_law_ask"] ["_law_stock_here", "_law_deal_here"] (defScope s_law_mixed_net) := ⟨rfl, rfl, rfl, by decide +kernel, rfl, by decide +kernel, by decide +kernel⟩
theorem c_law_mixed_net (T : Txt K mg) : C8.Cal P w K mg base 13 "_law_mixed_net" spMixed [] := by
  have h_law_shuffled : C8.Cal P w K mg base 2 "_law_shuffled" spShuf [] := c_law_shuffled T
  have h_law_moved : C8.Cal P w K mg base 12 "_law_moved" (spMv 11) [] := c_law_moved T 11
  refine cal_mk T.d_law_mixed_net sc_law_mixed_net (fun _ _ _ _ _ _ us hl => match us, hl with | [_, _], _ => rfl) (fun vs H Q E h => ?_) (fun f cdv A outer s H vs Q E hr h => ?_)
  · obtain ⟨D, S, fr, p, d, rfl, _⟩ := h
    rfl
  obtain ⟨D, S, fr, p, d, rfl, h, ⟨vp, vr, vk, va, hp, dv⟩, lr, lk, la, okk, oka, k⟩ := h
  refine ⟨_, (pss_cons (ps_set (i := 2) sc_law_mixed_net.nd rfl (Or.inr rfl) (C8.pe_c h_law_shuffled hr (by decide) rfl (pa_cons (pv 0) (pa_cons (pe_listRg rfl (by rfl) T.b_list (prg_1 (by rfl) T.b_range (pe_callB call_len_seq (by rfl) T.b_len PySem.boot_len (pa_cons (pe_dget (hu_of hr) (pv 1) pe_str (fun _ _ => rfl)) pa_nil)))) pa_nil)))) (pss_cons (ps_set (i := 3) sc_law_mixed_net.nd rfl (Or.inl rfl) (pe_callTy call_dictD (by rfl) T.b_dict boot_dict (pa_cons (pv 1) pa_nil))) (pss_cons (ps_dput (hu_of hr) (pv 3) pe_str (pe_lc (g := _) (tt := tYes) (te := (tOp (rIxL K) _ _)) (own := [("_law_spot", 4)]) rfl sc_law_mixed_net.nd (pi_list (pv 2)) (blkOk_by (by kernel_rfl)) (fun _ _ _ _ _ => (pg_name (i := 4) sc_law_mixed_net.nd rfl (.inl rfl))) (fun _ _ _ _ _ => pts_nil) (fun _ _ _ _ _ => (pe_ix ix_list (pe_dget (hu_of hr) (pv 1) pe_str (fun _ _ => rfl)) (pv 4) (fun _ _ => rfl)))) rfl) (pss_cons (ps_dput (hu_of hr) (pv 3) pe_str (pe_lc (g := (gTup K 2 _)) (tt := tYes) (te := (tTup (tCons _ (tCons (tCB (rTupOf K) (tCons (tLc (iTup K _) _ tYes (tBM K "list" (rIndex K) _ _) _) _)) _)))) (own := [("_law_times", 5), ("_law_trip", 6)]) rfl sc_law_mixed_net.nd (pi_list (pe_dget (hu_of hr) (pv 1) pe_str (fun _ _ => rfl))) (blkOk_by (by kernel_rfl)) (fun _ _ _ _ _ => (pg_tup rfl (pgs_cons (pg_name (i := 5) sc_law_mixed_net.nd rfl (.inl rfl)) (pgs_cons (pg_name (i := 6) sc_law_mixed_net.nd rfl (.inl rfl)) pgs_nil)))) (fun _ _ _ _ _ => pts_nil) (fun _ _ _ _ _ => (pe_tup (pa_cons (pv 5) (pa_cons (pe_callTy call_tuple_ofN (by rfl) T.b_tuple boot_tuple (pa_cons (pe_lc (g := _) (tt := tYes) (te := (tBM K "list" (rIndex K) _ _)) (own := [("_law_spot", 4)]) rfl sc_law_mixed_net.nd (pi_tup (pv 6)) (blkOk_by (by kernel_rfl)) (fun _ _ _ _ _ => (pg_name (i := 4) sc_law_mixed_net.nd rfl (.inl rfl))) (fun _ _ _ _ _ => pts_nil) (fun _ _ _ _ _ => (pe_bm PySem.F.plainAttrs_list PySem.F.slot_list_index PySem.F.type_list_index mt_index (pv 2) (pa_cons (pv 4) pa_nil)))) pa_nil)) pa_nil))))) rfl) (pss_cons (ps_dput (hu_of hr) (pv 3) pe_str (pe_lc (g := _) (tt := tYes) (te := _) (own := [("_law_ask", 7)]) rfl sc_law_mixed_net.nd (pi_list (pe_dget (hu_of hr) (pv 1) pe_str (fun _ _ => rfl))) (blkOk_by (by kernel_rfl)) (fun _ _ _ _ _ => (pg_name (i := 7) sc_law_mixed_net.nd rfl (.inl rfl))) (fun _ _ _ _ _ => pts_nil) (fun _ _ _ _ _ => (C8.pe_c h_law_moved hr (by decide) rfl (pa_cons (pv 2) (pa_cons (pv 7) pa_nil))))) rfl) (pss_one (ps_ret (pv 3)))))))), ?_⟩
  show tSeq _ _ _ [some (.ref S), some (.ref p), none, none, none, none, none, none] H
  have gI : Ground (fun D fr H => Sk D S fr H) := ground_Sk
  obtain ⟨pr, rx, er, hpr, hrx⟩ := dv.ro.lst_is
  subst er
  obtain ⟨pk, kx, ek, hpk, hkx⟩ := dv.kn.lst_is
  subst ek
  obtain ⟨pas, ax, ea, hpa, hax⟩ := dv.as.lst_is
  subst ea
  have hrl : rx.length = d.roads.length := by rw [hrx.len, List.length_map]
  walk_at "st"
  refine ⟨_, dg_roads (h.same _ _ hp), _, rfl, _, .inl (SqL.of (h.same _ _ hpr)), RgOk.of_le (by omega) (by omega) (by omega) (by omega), fun p1 n1 => ?_⟩
  rw [rgV_nat, hrl]
  obtain ⟨h1, s1⟩ := h.new n1 (.lst ((List.range d.roads.length).map vN))
  refine ⟨_, S, fr, p1, _, rfl, h1, .inl upd_same, by simp; omega, fun D2 H2 po ys s2 h2 hpo hperm => ?_⟩
  obtain ⟨o, rfl, ho⟩ := perm_map_inv hperm _ rfl
  have t2 := same_tr s1 s2
  have lo : o.length = d.roads.length := by rw [ho.length_eq, List.length_range]
  have oin : ∀ i, i < d.roads.length → i ∈ o := fun i hi => ho.mem_iff.mpr (by simpa using hi)
  have oix : ∀ i ∈ o, i < d.roads.length := fun i hi => by simpa using ho.mem_iff.mp hi
  walk_at "st"
  walk_at "st"
  refine ⟨_, .inl (h2.same _ _ (t2 _ _ hp)), fun p3 n3 => ?_⟩
  have h3 := h2.put n3 (dealO d vp (.ref pr) (.ref pk) (.ref pas))
  have hpo3 := h3.same _ _ hpo
  walk_at "st"
  refine ⟨⟨_, SqL.of hpo3⟩, ?_⟩
  refine gathO gI (src_list (enc := iN) gI (.inl hpo) (AtL.nats.mpr rfl)) h3 Rd.d (fun i bs => bs.length = i ∧ ∀ (j m : Nat), j < i → o[j]? = some m → bs[j]? = d.roads[m]?) ⟨rfl, fun j m hj => absurd hj (Nat.not_lt_zero _)⟩ (fun i bs _ hh => Nat.le_of_eq hh.1) (by omega) ?_ ?_
  · rintro i x e D5 q5 H5 bs he hx ⟨o1, o2⟩ s5 h5 My Mn myes mno
    obtain rfl := hx.int_is
    have hpD := s5 _ _ (t2 _ _ hp)
    have hprD := s5 _ _ (t2 _ _ hpr)
    obtain ⟨r, hr⟩ : ∃ r, d.roads[e]? = some r := ⟨_, List.getElem?_eq_getElem (oix e (List.mem_of_getElem? he))⟩
    obtain ⟨v, hv, hat⟩ := hrx.get (i := e) (d := r.d) (by rw [List.getElem?_map, hr] <;> rfl)
    walk_at "rd"
    refine ⟨_, dg_roads (h5.same _ _ hpD), _, rfl, _, SqL.of (h5.same _ _ hprD), _, atI_of rfl hv, myes _ _ _ r same_rfl h5 (hat.up (same_tr t2 s5)) ⟨by rw [List.length_append, o1] <;> rfl, fun j m hj hm => ?_⟩⟩
    by_cases hji : j < i
    · rw [List.getElem?_append_left (by omega)]
      exact o2 j m hji hm
    · have : j = i := by omega
      subst this
      rw [he] at hm
      cases hm
      rw [List.getElem?_append_right (by omega), o1, Nat.sub_self, hr] <;> rfl
  intro D4 H4 q4 rv roads s4 h4 arv ⟨ol, oo⟩
  obtain ⟨h5, s5⟩ := h4.fix
  have arv5 : At (upd D4 q4 (.lst rv)) (.ref q4) (.list (roads.map Rd.d)) := .lst upd_same (arv.up s5)
  have t5 := same_tr t2 (same_tr s4 s5)
  have hpo5 := s5 _ _ (s4 _ _ hpo)
  generalize upd D4 q4 (.lst rv) = D5 at *
  walk_at "rd"
  refine ⟨_, dput_roads (.ref q4) (h5.get 0 rfl), ?_⟩
  have h6 := h5.upd 0 rfl (dealO d vp (.ref q4) (.ref pk) (.ref pas))
  walk_at "st"
  refine ⟨_, dg_known (h6.same _ _ (t5 _ _ hp)), _, rfl, ⟨_, SqL.of (h6.same _ _ (t5 _ _ hpk))⟩, ?_⟩
  refine gathE gI (src_list gI (.inl (t5 _ _ hpk)) (hkx.up t5)) h6 (fun e : Nat × List Nat => knD (e.1, e.2.map fun i => o.idxOf i)) (by omega) ?_ ?_
  · intro j y e D7 q7 H7 he hy s7 h7 My Mn myes
    obtain ⟨b, c, rfl, hb, hc⟩ := kn_at hy
    have hb7 := h7.same _ _ hb
    have hc7 := h7.same _ _ hc
    obtain ⟨e1, e2⟩ := okk e (List.mem_of_getElem? he)
    walk_at "rd"
    refine ⟨_, SqT.of hb7, rfl, _, _, rfl, _, _, rfl, rfl, ?_⟩
    walk_at "rd"
    refine ⟨⟨_, SqT.of hc7⟩, ?_⟩
    refine gathE gI (src_tup (enc := iN) gI (.inl hc) (AtL.nats.mpr rfl)) h7 (fun i => iN (o.idxOf i)) (by omega) ?_ ?_
    · intro j8 y8 i D8 q8 H8 hi hy8 s8 h8 My8 Mn8 myes8
      obtain rfl := hy8.int_is
      have hpo8 := h8.same _ _ (s8 _ _ (s7 _ _ hpo5))
      have hio := oin i (e2 i (List.mem_of_getElem? hi))
      walk_at "rd"
      exact ⟨.inl ⟨rfl, _, SqL.of hpo8⟩, _, SqL.of hpo8, flat_nats _, _, _, (idx_nat hio).1, eqV_nat _, (idx_nat hio).2, myes8 _ _ _ same_rfl h8 (.int _)⟩
    intro D9 H9 v9 s9 h9 hv9
    obtain ⟨p9, x9, rfl, hp9, hx9⟩ := hv9.lst_is
    walk_at "rd"
    refine ⟨_, .inl ⟨SqL.of (h9.same _ _ hp9), fun p10 n10 p11 n11 => ?_⟩⟩
    obtain ⟨h10, s10⟩ := h9.new n10 (.tup x9)
    obtain ⟨h11, s11⟩ := h10.new n11 (.tup [vN e.1, .ref p10])
    refine myes _ _ _ (same_tr s9 (same_tr s10 s11)) h11 (.tup upd_same (.cons (.int _) (.cons (.tup (s11 _ _ upd_same) ?_) .nil)))
    rw [List.map_map]
    exact (hx9.up s10).up s11
  intro D7 H7 v7 s7 h7 hv7
  obtain ⟨p7, x7, rfl, hp7, hx7⟩ := hv7.lst_is
  walk_at "rd"
  refine ⟨_, dput_known (.ref p7) (h7.get 0 rfl), ?_⟩
  have h8 := h7.upd 0 rfl (dealO d vp (.ref q4) (.ref p7) (.ref pas))
  have t7 := same_tr t5 s7
  have hpo7 := s7 _ _ hpo5
  walk_at "st"
  refine ⟨_, dg_asks (h8.same _ _ (t7 _ _ hp)), _, rfl, ⟨_, SqL.of (h8.same _ _ (t7 _ _ hpa))⟩, ?_⟩
  refine gathO gI (src_list gI (.inl (t7 _ _ hpa)) (hax.up t7)) h8 As.d (fun i bs => bs.length = i ∧ ∀ (j : Nat) (a b : As), d.asks[j]? = some a → bs[j]? = some b → MvA (fun i => o.idxOf i) a b) ⟨rfl, fun j a b _ hb => by simp at hb⟩ (fun i bs _ hh => Nat.le_of_eq hh.1) (by omega) ?_ ?_
  · rintro i x a D9 q9 H9 bs he hx ⟨o1, o2⟩ s9 h9 My Mn myes mno
    have hal := oka a (List.mem_of_getElem? he)
    walk_at "rd"
    refine ⟨_, D9, _, po, o, x, .ta a, gI, rfl, h9, .inl (s9 _ _ hpo7), hx, by show a.Lt o.length; rw [lo]; exact hal, fun i hi => oin i (by omega), ?_, fun D10 H10 v th' s10 h10 mv hv => ?_⟩
    · cases a with
      | say s => have := hal.2; show s.nots + 2 < 11; omega
      | least q => show 1 < 11; decide
      | most q => show 1 < 11; decide
      | followers q => show 1 < 11; decide
      | sure => show 1 < 11; decide
    cases mv with
    | a mv =>
      refine myes _ _ _ _ s10 h10 hv ⟨by rw [List.length_append, o1] <;> rfl, fun j a' b' ha hb => ?_⟩
      by_cases hji : j < i
      · rw [List.getElem?_append_left (by omega)] at hb
        exact o2 j a' b' ha hb
      · have hj2 := (List.getElem?_eq_some_iff.mp hb).1
        rw [List.length_append, o1, List.length_singleton] at hj2
        have : j = i := by omega
        subst this
        rw [he] at ha
        cases ha
        rw [List.getElem?_append_right (by omega), o1, Nat.sub_self] at hb
        cases hb
        exact mv
  intro D9 H9 q9 av asks s9 h9 aav ⟨al, am⟩
  obtain ⟨h10, s10⟩ := h9.fix
  walk_at "rd"
  refine ⟨_, dput_asks (.ref q9) (h10.get 0 rfl), ?_⟩
  have h11 := h10.upd 0 rfl (dealO d vp (.ref q4) (.ref p7) (.ref q9))
  obtain ⟨h12, s12⟩ := h11.fix
  walk_at "st"
  have t9 := same_tr t7 (same_tr s9 (same_tr s10 s12))
  refine k _ _ p3 o roads _ asks t9 h12 ho (by omega) (fun j i hj => oo j i (by have := (List.getElem?_eq_some_iff.mp hj).1; omega) hj) rfl al am ⟨vp, .ref q4, .ref p7, .ref q9, upd_same, dv.pl.up t9, ?_, ?_, ?_⟩
  · exact arv5.up (same_tr s7 (same_tr s9 (same_tr s10 s12)))
  · refine .lst (s12 _ _ (s10 _ _ (s9 _ _ hp7))) ?_
    rw [List.map_map]
    exact hx7.up (same_tr s9 (same_tr s10 s12))
  · exact .lst (s12 _ _ upd_same) (aav.up (same_tr s10 s12))
theorem sc_law_stock : FnScope ["_law_script", "_law_flat", "_law_cell"] ["_law_script"] (defScope s_law_stock) := ⟨rfl, rfl, rfl, by decide +kernel, rfl, by decide +kernel, by decide +kernel⟩
theorem c_law_stock (T : Txt K mg) : C8.Cal P w K mg base 1 "_law_stock" (spStock K) [] := by
  refine cal_mk T.d_law_stock sc_law_stock (fun _ _ _ _ _ _ us hl => match us, hl with | [_], _ => rfl) (fun vs H Q E h => ?_) (fun f cdv A outer s H vs Q E hr h => ?_)
  · obtain ⟨D, fr, a, ns, rfl, _⟩ := h
    rfl
  obtain ⟨D, fr, a, ns, rfl, h, ha, k⟩ := h
  refine ⟨_, (pss_cons (ps_setLc (g := _) (tt := tYes) (te := _) (i := 1) (own := [("_law_cell", 2)]) rfl sc_law_stock.nd rfl rfl (sw_true rfl rfl rfl (by decide +kernel)) (pi_list (pe_slice sl_list (pv 0) po_none (po_some pe_int))) (blkOk_by (by kernel_rfl)) (fun _ _ _ _ _ => (pg_name (i := 2) sc_law_stock.nd rfl (.inl rfl))) (fun _ _ _ _ _ => pts_nil) (fun _ _ _ _ _ => (pe_ifExp (pt_cmpR op_ge (pv 2) pe_int (nomark _)) (pe_op op_mul pe_int (pv 2)) (pe_op op_sub (pe_op op_mul (pe_un un_neg pe_int) (pv 2)) pe_int)))) (pss_one (ps_ret (pe_lst (pa_cons (pe_lc (g := _) (tt := _) (te := _) (own := [("_law_cell", 2)]) rfl sc_law_stock.nd (pi_list (pv 1)) (blkOk_by (by kernel_rfl)) (fun _ _ _ _ _ => (pg_name (i := 2) sc_law_stock.nd rfl (.inl rfl))) (fun _ _ _ _ _ => (pts_one (pt_cmpR op_ge (pv 2) (pe_op op_pow pe_int pe_int) (nomark _)))) (fun _ _ _ _ _ => (pv 2))) (pa_cons (pe_op op_cat (pv 1) (pe_lst (pa_cons (pe_op op_add (pe_callB call_len_seq (by rfl) T.b_len PySem.boot_len (pa_cons (pv 1) pa_nil)) pe_int) pa_nil))) (pa_cons (pe_callB (cr_sum rfl) (by rfl) T.b_sum boot_sum (pa_cons (pv 1) pa_nil)) (pa_cons pe_int pa_nil)))))))), ?_⟩
  show tSeq _ _ _ [some (.ref a), none, none] H
  have gI : Ground Hs := ground_Hs
  walk_at "st"
  refine ⟨_, ha, fun p1 n1 => ?_⟩
  rw [show cutV (ns.map V.int) none (some 63) = (ns.map V.int).take 63 from cutV_to (k := 63), ← List.map_take]
  obtain ⟨h1, s1⟩ := h.new n1 (.lst ((ns.take 63).map V.int))
  have l63 : (ns.take 63).length ≤ 63 := by rw [List.length_take]; omega
  generalize ns.take 63 = ns at *
  refine ⟨⟨_, SqL.of upd_same⟩, ?_⟩
  refine gathE gI (src_list (enc := PyData.int) gI (.inl upd_same) (AtL.ints.mpr rfl)) h1 (fun c : Int => PyData.int (if c ≥ 0 then 2 * c else -2 * c - 1)) (by omega) ?_ ?_
  · intro j y c D5 q5 H5 hc hy s5 h5 My Mn myes
    obtain rfl := hy.int_is
    walk_at "rd"
    refine ite2 (fun hq => ?_) (fun hq => ?_)
    · refine ⟨.inl ⟨by decide, by decide⟩, myes _ _ _ same_rfl h5 ?_⟩
      rw [if_pos hq]
      exact .int _
    · refine ⟨.inl ⟨by decide, by decide⟩, myes _ _ _ same_rfl h5 ?_⟩
      rw [if_neg hq]
      exact .int _
  intro D2 H2 v2 s2 h2 hv2
  obtain ⟨p2, x2, rfl, hp2, hx2⟩ := hv2.lst_is
  obtain ⟨fs, efs, l2, hfs⟩ : ∃ fs : List Int, x2 = fs.map V.int ∧ fs.length ≤ 63 ∧ ∀ c ∈ fs, 0 ≤ c := by
    refine ⟨ns.map fun c => if c ≥ 0 then 2 * c else -2 * c - 1, AtL.ints.mp (by rw [List.map_map]; exact hx2), by rw [List.length_map]; exact l63, fun c hc => ?_⟩
    obtain ⟨z, _, rfl⟩ := List.mem_map.mp hc
    split <;> omega
  subst efs
  walk_at "st"
  refine ⟨⟨_, SqL.of (h2.same _ _ hp2)⟩, ?_⟩
  refine gathPm gI (src_list (enc := PyData.int) gI (.inl hp2) (AtL.ints.mpr rfl)) h2 (fun c : Int => decide (10 ^ 15 ≤ c)) (by omega) ?_ ?_
  · intro j y c D5 q5 H5 hc hy s5 h5 My Mn myes mno
    obtain rfl := hy.int_is
    walk_at "rd"
    refine ⟨⟨by decide, by decide, by decide⟩, ?_⟩
    refine ite2 (fun hq => ?_) (fun hq => ?_)
    · exact myes _ _ same_rfl h5 (decide_eq_true (by rw [show (10 ^ Int.toNat 15 : Int) = 10 ^ 15 from rfl] at hq; exact hq))
    · exact mno _ _ same_rfl h5 (decide_eq_false (by rw [show (10 ^ Int.toNat 15 : Int) = 10 ^ 15 from rfl] at hq; exact hq))
  intro D3 H3 G gv s3 h3 ag
  obtain rfl := AtL.ints.mp ag
  walk_at "rd"
  have p2D := s3 _ _ hp2
  refine ⟨_, .inl (SqL.of (h3.same _ _ p2D)), fun p4 n4 => ?_⟩
  have h4 := h3.tmp n4 (.lst [.int (((fs.map V.int).length : Int) + 2277)])
  refine ⟨_, h4.same _ _ p2D, _, upd_same, by rw [sizeLine_eq]; simp; omega, fun F nF => ?_⟩
  obtain ⟨h5, s5⟩ := h4.new nF (.lst (fs.map V.int ++ [.int (((fs.map V.int).length : Int) + 2277)]))
  refine ⟨fs, SqL.of (h5.same _ _ (s5 _ _ p2D)), fun S nS => ?_⟩
  have h6 := h5.put nS (.lst [.ref G, .ref F, .int fs.sum, .int 0])
  have hfl := List.length_filter_le (fun c : Int => decide (10 ^ 15 ≤ c)) fs
  refine k _ _ S (same_tr s1 (same_tr s2 (same_tr s3 s5))) ⟨G, F, fs.filter fun c => decide (10 ^ 15 ≤ c), fs ++ [((fs.map V.int).length : Int) + 2277], fs.sum, 0, h6.perm ?_, ?_, by simp, by omega, fun g hg => hfs g (List.mem_filter.mp hg).1⟩
  · exact List.perm_append_comm
  · rw [List.map_append]
    exact upd_same
end
/-! ### text C5 -/
def spSW (n : Nat) : Sp := fun vs H Q _ => ∃ (I : Hp → List (Addr × HO) → Hp → Prop) (D : Hp) (fr : List (Addr × HO)) (pn : Addr) (names : List Str) (x : V) (q : Sa), Ground I ∧ vs = [.ref pn, x] ∧ I D fr H ∧ In D fr pn (.lst (names.map V.str)) ∧ At D x q.d ∧ q.Lt names.length ∧ q.nots < n ∧ n ≤ 1000 ∧
  ∀ (D' H' : Hp) (v : V), Same D D' → I D' fr H' → At D' v (.list ((q.w names).map .str)) → Q v H'
def spAW : Sp := fun vs H Q _ => ∃ (I : Hp → List (Addr × HO) → Hp → Prop) (D : Hp) (fr : List (Addr × HO)) (pn : Addr) (names : List Str) (x : V) (q : As), Ground I ∧ vs = [.ref pn, x] ∧ I D fr H ∧ In D fr pn (.lst (names.map V.str)) ∧ At D x q.d ∧ q.Lt names.length ∧
  ∀ (D' H' : Hp) (v : V), Same D D' → I D' fr H' → At D' v (.list ((q.w names).map .str)) → Q v H'
theorem Qu.w_len {names : List Str} {m : Nat} : ∀ {q : Qu}, q.Lt m → (q.w names).length ≤ 1003
  | .along t, h => by simp only [Qu.w, List.length_cons, List.length_map]; have := h.2; omega
  | .touch t, h => by simp only [Qu.w, List.length_cons, List.length_map]; have := h.2; omega
  | .both a b, h => by simp [Qu.w]
theorem Sa.w_len {names : List Str} {m : Nat} : ∀ {q : Sa}, q.Lt m → (q.w names).length ≤ 1005 + q.nots
  | .least n q, h => by simp only [Sa.w, List.length_cons]; have := Qu.w_len (names := names) h.2; omega
  | .most n q, h => by simp only [Sa.w, List.length_cons]; have := Qu.w_len (names := names) h.2; omega
  | .follow a b, h => by simp only [Sa.w, List.length_cons, List.length_nil]; omega
  | .no s, h => by simp only [Sa.w, List.length_cons, Sa.nots]; have := Sa.w_len (names := names) (q := s) h; omega
section
variable {P : Program} {w : World} {K : PySem.W.Frag} {mg : Str → Option Value} {base : Heap}
theorem sc_law_saying_words : FnScope ["_law_names", "_law_saying_here"] ["_law_names", "_law_saying_here"] (defScope s_law_saying_words) := ⟨rfl, rfl, rfl, by decide +kernel, rfl, by decide +kernel, by decide +kernel⟩
theorem c_law_saying_words (T : Txt K mg) : ∀ n, C8.Cal P w K mg base (n + 2) "_law_saying_words" (spSW n) []
  | 0 => by
    refine cal_mk T.d_law_saying_words sc_law_saying_words (fun _ _ _ _ _ _ us hl => match us, hl with | [_, _], _ => rfl) (fun vs H Q E h => ?_) (fun f cdv A outer s H vs Q E hr h => ?_)
    · obtain ⟨I, D, fr, pn, names, x, q, gI, rfl, h, hpn, hx, hlt, hn, _⟩ := h
      omega
    · obtain ⟨I, D, fr, pn, names, x, q, gI, rfl, h, hpn, hx, hlt, hn, _⟩ := h
      omega
  | n + 1 => by
    have h_law_saying_words : C8.Cal P w K mg base (n + 2) "_law_saying_words" (spSW n) [] := c_law_saying_words T n
    have h_law_question_words : C8.Cal P w K mg base 1 "_law_question_words" spQW [] := c_law_question_words T
    refine cal_mk T.d_law_saying_words sc_law_saying_words (fun _ _ _ _ _ _ us hl => match us, hl with | [_, _], _ => rfl) (fun vs H Q E h => ?_) (fun f cdv A outer s H vs Q E hr h => ?_)
    · obtain ⟨I, D, fr, pn, names, x, q, gI, rfl, h, hpn, hx, hlt, hn, _⟩ := h
      rfl
    obtain ⟨I, D, fr, pn, names, x, q, gI, rfl, h, hpn, hx, hlt, hn, hn2, k⟩ := h
    refine ⟨_, (pss_cons (ps_if (pt_cmpR op_eq (pe_ix ix_tup (pv 1) pe_int (fun _ _ => rfl)) pe_str (nomark _)) (pss_one (ps_ret (pe_op op_cat (pe_lst (pa_cons pe_str pa_nil)) (C8.pe_c h_law_saying_words hr (by omega) rfl (pa_cons (pv 0) (pa_cons (pe_ix ix_tup (pv 1) pe_int (fun _ _ => rfl)) pa_nil)))))) pss_nil) (pss_cons (ps_if (pt_cmpR op_eq (pe_ix ix_tup (pv 1) pe_int (fun _ _ => rfl)) pe_str (nomark _)) (pss_one (ps_ret (pe_lst (pa_cons pe_str (pa_cons (pe_ix ix_list (pv 0) (pe_ix ix_tup (pv 1) pe_int (fun _ _ => rfl)) (fun _ _ => rfl)) (pa_cons (pe_ix ix_list (pv 0) (pe_ix ix_tup (pv 1) pe_int (fun _ _ => rfl)) (fun _ _ => rfl)) pa_nil)))))) pss_nil) (pss_one (ps_ret (pe_op op_cat (pe_lst (pa_cons (pe_ix ix_tup (pv 1) pe_int (fun _ _ => rfl)) (pa_cons (pe_callTy call_str_int (by rfl) T.b_str boot_str (pa_cons (pe_ix ix_tup (pv 1) pe_int (fun _ _ => rfl)) pa_nil)) pa_nil))) (C8.pe_c h_law_question_words hr (by omega) rfl (pa_cons (pv 0) (pa_cons (pe_ix ix_tup (pv 1) pe_int (fun _ _ => rfl)) pa_nil)))))))), ?_⟩
    show tSeq _ _ _ [some (.ref pn), some x] H
    have hn0 := gI.in_ h hpn
    have hk : (∃ s', q = .no s') ∨ (∃ a b, q = .follow a b) ∨ ∃ (wd : Str) (m : Nat) (q' : Qu) (c : Addr) (u : V), x = .ref c ∧ D c = some (.tup [.str wd, vN m, u]) ∧ At D u q'.d ∧ wd ≠ "not" ∧ wd ≠ "follow" ∧ q.w names = wd :: num m :: q'.w names ∧ m ≤ 10 ^ 30 ∧ q'.Lt names.length := by
      cases q with
      | no s' => exact .inl ⟨s', rfl⟩
      | follow a b => exact .inr (.inl ⟨a, b, rfl⟩)
      | least m q' =>
        obtain ⟨c, u, v, z, rfl, hc, hu, hv, hz⟩ := tu3_at hx
        rw [hu.str_is, hv.int_is] at hc
        exact .inr (.inr ⟨_, m, q', c, z, rfl, hc, hz, by decide +kernel, by decide +kernel, rfl, hlt⟩)
      | most m q' =>
        obtain ⟨c, u, v, z, rfl, hc, hu, hv, hz⟩ := tu3_at hx
        rw [hu.str_is, hv.int_is] at hc
        exact .inr (.inr ⟨_, m, q', c, z, rfl, hc, hz, by decide +kernel, by decide +kernel, rfl, hlt⟩)
    rcases hk with ⟨s', rfl⟩ | ⟨a, b, rfl⟩ | ⟨wd, m, q', c, u, rfl, hc, hu, w1, w2, hw, hm, hl'⟩
    · obtain ⟨c, u, v, rfl, hc, hu, hv⟩ := tu2_at hx
      rw [hu.str_is] at hc
      have hc0 := gI.same h _ _ hc
      walk_at "st"
      walk_at "ux"
      intro p np
      obtain ⟨h1, s1⟩ := gI.new (.lst [.str "not"]) h np
      have hc1 := gI.same h1 _ _ (s1 _ _ hc)
      walk_at "ux"
      refine ⟨I, _, fr, pn, names, _, s', gI, rfl, h1, hpn.up s1, hv.up s1, hlt, by have : Sa.nots (.no s') = s'.nots + 1 := rfl; omega, by omega, fun D2 H2 v2 s2 h2 hv2 => ?_⟩
      obtain ⟨p2, x2, rfl, hp2, hx2⟩ := hv2.lst_is
      obtain rfl := AtL.strs.mp hx2
      have hl2 := Sa.w_len (names := names) (q := s') hlt
      walk_at "rd"
      refine ⟨_, gI.same h2 _ _ (s2 _ _ upd_same), _, gI.same h2 _ _ hp2, sz (by simp only [List.length_map, List.length_singleton]; have : Sa.nots (.no s') = s'.nots + 1 := rfl; omega), fun p3 n3 => ?_⟩
      obtain ⟨h3, s3⟩ := gI.new (.lst ([.str "not"] ++ (s'.w names).map V.str)) h2 n3
      exact k _ _ _ (same_tr s1 (same_tr s2 s3)) h3 (.lst upd_same (AtL.strs.mpr rfl))
    · obtain ⟨c, u, v, z, rfl, hc, hu, hv, hz⟩ := tu3_at hx
      rw [hu.str_is, hv.int_is, hz.int_is] at hc
      have hc0 := gI.same h _ _ hc
      walk_at "st"
      walk_at "ux"
      rw [if_neg (by decide +kernel)]
      walk_at "st"
      walk_at "ux"
      refine ⟨_, SqT.of hc0, _, rfl, _, _, rfl, SqL.of hn0, _, nmV_at hlt.1, _, SqT.of hc0, _, rfl, _, _, rfl, SqL.of hn0, _, nmV_at hlt.2, fun p np => ?_⟩
      obtain ⟨h1, s1⟩ := gI.new (.lst [.str "follow", .str (nmAt names a), .str (nmAt names b)]) h np
      exact k _ _ _ s1 h1 (.lst upd_same (AtL.strs.mpr rfl))
    · have hc0 := gI.same h _ _ hc
      walk_at "st"
      walk_at "ux"
      rw [if_neg w1]
      walk_at "st"
      walk_at "ux"
      rw [if_neg w2]
      walk_at "ux"
      refine ⟨_, SqT.of hc0, _, rfl, _, rfl, num_lt hm, fun p np => ?_⟩
      obtain ⟨h1, s1⟩ := gI.new (.lst [.str wd, .str (num m)]) h np
      have hc1 := gI.same h1 _ _ (s1 _ _ hc)
      refine ⟨_, SqT.of hc1, _, rfl, ?_⟩
      refine ⟨I, _, fr, pn, names, _, q', gI, rfl, h1, hpn.up s1, hu.up s1, hl', fun D2 H2 v2 s2 h2 hv2 => ?_⟩
      obtain ⟨p2, x2, rfl, hp2, hx2⟩ := hv2.lst_is
      obtain rfl := AtL.strs.mp hx2
      have hl2 := Qu.w_len (names := names) (q := q') hl'
      walk_at "rd"
      refine ⟨_, gI.same h2 _ _ (s2 _ _ upd_same), _, gI.same h2 _ _ hp2, sz (by simp only [List.length_map, List.length_cons, List.length_nil]; omega), fun p3 n3 => ?_⟩
      obtain ⟨h3, s3⟩ := gI.new (.lst ([.str wd, .str (num m)] ++ (q'.w names).map V.str)) h2 n3
      refine k _ _ _ (same_tr s1 (same_tr s2 s3)) h3 (.lst upd_same ?_)
      rw [hw]
      exact AtL.strs.mpr rfl
theorem sc_law_ask_words : FnScope ["_law_names", "_law_ask"] ["_law_names", "_law_ask"] (defScope s_law_ask_words) := ⟨rfl, rfl, rfl, by decide +kernel, rfl, by decide +kernel, by decide +kernel⟩
theorem c_law_ask_words (T : Txt K mg) : C8.Cal P w K mg base 12 "_law_ask_words" spAW [] := by
  have h_law_saying_words : C8.Cal P w K mg base 11 "_law_saying_words" (spSW 9) [] := c_law_saying_words T 9
  have h_law_question_words : C8.Cal P w K mg base 1 "_law_question_words" spQW [] := c_law_question_words T
  refine cal_mk T.d_law_ask_words sc_law_ask_words (fun _ _ _ _ _ _ us hl => match us, hl with | [_, _], _ => rfl) (fun vs H Q E h => ?_) (fun f cdv A outer s H vs Q E hr h => ?_)
  · obtain ⟨I, D, fr, pn, names, x, q, gI, rfl, _⟩ := h
    rfl
  obtain ⟨I, D, fr, pn, names, x, q, gI, rfl, h, hpn, hx, hlt, k⟩ := h
  refine ⟨_, (pss_cons (ps_if (pt_cmpR op_eq (pe_ix ix_tup (pv 1) pe_int (fun _ _ => rfl)) pe_str (nomark _)) (pss_one (ps_ret (pe_op op_cat (pe_lst (pa_cons pe_str pa_nil)) (C8.pe_c h_law_saying_words hr (by decide) rfl (pa_cons (pv 0) (pa_cons (pe_ix ix_tup (pv 1) pe_int (fun _ _ => rfl)) pa_nil)))))) pss_nil) (pss_cons (ps_if (pt_cmpR op_eq (pe_ix ix_tup (pv 1) pe_int (fun _ _ => rfl)) pe_str (nomark _)) (pss_one (ps_ret (pe_lst (pa_cons pe_str (pa_cons pe_str (pa_cons (pe_ix ix_list (pv 0) (pe_ix ix_tup (pv 1) pe_int (fun _ _ => rfl)) (fun _ _ => rfl)) pa_nil)))))) pss_nil) (pss_one (ps_ret (pe_ifExp (pt_cmpR op_eq (pe_ix ix_tup (pv 1) pe_int (fun _ _ => rfl)) pe_str (nomark _)) (pe_lst (pa_cons pe_str (pa_cons pe_str pa_nil))) (pe_op op_cat (pe_lst (pa_cons pe_str (pa_cons (pe_ix ix_tup (pv 1) pe_int (fun _ _ => rfl)) pa_nil))) (C8.pe_c h_law_question_words hr (by decide) rfl (pa_cons (pv 0) (pa_cons (pe_ix ix_tup (pv 1) pe_int (fun _ _ => rfl)) pa_nil))))))))), ?_⟩
  show tSeq _ _ _ [some (.ref pn), some x] H
  have hn0 := gI.in_ h hpn
  have hk : (∃ s', q = .say s') ∨ (∃ a, q = .followers a) ∨ q = .sure ∨ ∃ (wd : Str) (q' : Qu) (c : Addr) (u : V), x = .ref c ∧ D c = some (.tup [.str wd, u]) ∧ At D u q'.d ∧ wd ≠ "say" ∧ wd ≠ "followers" ∧ wd ≠ "sure" ∧ q.w names = ("ask" : Str) :: wd :: q'.w names ∧ q'.Lt names.length := by
    cases q with
    | say s' => exact .inl ⟨s', rfl⟩
    | followers a => exact .inr (.inl ⟨a, rfl⟩)
    | sure => exact .inr (.inr (.inl rfl))
    | least q' =>
      obtain ⟨c, u, v, rfl, hc, hu, hv⟩ := tu2_at hx
      rw [hu.str_is] at hc
      exact .inr (.inr (.inr ⟨_, q', c, v, rfl, hc, hv, by decide +kernel, by decide +kernel, by decide +kernel, rfl, hlt⟩))
    | most q' =>
      obtain ⟨c, u, v, rfl, hc, hu, hv⟩ := tu2_at hx
      rw [hu.str_is] at hc
      exact .inr (.inr (.inr ⟨_, q', c, v, rfl, hc, hv, by decide +kernel, by decide +kernel, by decide +kernel, rfl, hlt⟩))
  rcases hk with ⟨s', rfl⟩ | ⟨a, rfl⟩ | rfl | ⟨wd, q', c, u, rfl, hc, hu, w1, w2, w3, hw, hl'⟩
  · obtain ⟨c, u, v, rfl, hc, hu, hv⟩ := tu2_at hx
    rw [hu.str_is] at hc
    have hc0 := gI.same h _ _ hc
    walk_at "st"
    walk_at "ux"
    intro p np
    obtain ⟨h1, s1⟩ := gI.new (.lst [.str "say"]) h np
    have hc1 := gI.same h1 _ _ (s1 _ _ hc)
    walk_at "ux"
    refine ⟨I, _, fr, pn, names, _, s', gI, rfl, h1, hpn.up s1, hv.up s1, hlt.1, by have := hlt.2; omega, by omega, fun D2 H2 v2 s2 h2 hv2 => ?_⟩
    obtain ⟨p2, x2, rfl, hp2, hx2⟩ := hv2.lst_is
    obtain rfl := AtL.strs.mp hx2
    have hl2 := Sa.w_len (names := names) (q := s') hlt.1
    have hl3 := hlt.2
    walk_at "rd"
    refine ⟨_, gI.same h2 _ _ (s2 _ _ upd_same), _, gI.same h2 _ _ hp2, sz (by simp only [List.length_map, List.length_singleton]; omega), fun p3 n3 => ?_⟩
    obtain ⟨h3, s3⟩ := gI.new (.lst ([.str "say"] ++ (s'.w names).map V.str)) h2 n3
    exact k _ _ _ (same_tr s1 (same_tr s2 s3)) h3 (.lst upd_same (AtL.strs.mpr rfl))
  · obtain ⟨c, u, v, rfl, hc, hu, hv⟩ := tu2_at hx
    rw [hu.str_is, hv.int_is] at hc
    have hc0 := gI.same h _ _ hc
    walk_at "st"
    walk_at "ux"
    rw [if_neg (by decide +kernel)]
    walk_at "st"
    walk_at "ux"
    refine ⟨_, SqT.of hc0, _, rfl, _, _, rfl, SqL.of hn0, _, nmV_at hlt, fun p np => ?_⟩
    obtain ⟨h1, s1⟩ := gI.new (.lst [.str "ask", .str "followers", .str (nmAt names a)]) h np
    exact k _ _ _ s1 h1 (.lst upd_same (AtL.strs.mpr rfl))
  · obtain ⟨c, u, rfl, hc, hu⟩ := tu1_at hx
    rw [hu.str_is] at hc
    have hc0 := gI.same h _ _ hc
    walk_at "st"
    walk_at "ux"
    rw [if_neg (by decide +kernel)]
    walk_at "st"
    walk_at "ux"
    rw [if_neg (by decide +kernel)]
    walk_at "ux"
    intro p np
    obtain ⟨h1, s1⟩ := gI.new (.lst [.str "ask", .str "sure"]) h np
    exact k _ _ _ s1 h1 (.lst upd_same (AtL.strs.mpr rfl))
  · have hc0 := gI.same h _ _ hc
    walk_at "st"
    walk_at "ux"
    rw [if_neg w1]
    walk_at "st"
    walk_at "ux"
    rw [if_neg w2]
    walk_at "ux"
    rw [if_neg w3]
    walk_at "ux"
    intro p np
    obtain ⟨h1, s1⟩ := gI.new (.lst [.str "ask", .str wd]) h np
    have hc1 := gI.same h1 _ _ (s1 _ _ hc)
    refine ⟨_, SqT.of hc1, _, rfl, ?_⟩
    refine ⟨I, _, fr, pn, names, _, q', gI, rfl, h1, hpn.up s1, hu.up s1, hl', fun D2 H2 v2 s2 h2 hv2 => ?_⟩
    obtain ⟨p2, x2, rfl, hp2, hx2⟩ := hv2.lst_is
    obtain rfl := AtL.strs.mp hx2
    have hl2 := Qu.w_len (names := names) (q := q') hl'
    walk_at "rd"
    refine ⟨_, gI.same h2 _ _ (s2 _ _ upd_same), _, gI.same h2 _ _ hp2, sz (by simp only [List.length_map, List.length_cons, List.length_nil]; omega), fun p3 n3 => ?_⟩
    obtain ⟨h3, s3⟩ := gI.new (.lst ([.str "ask", .str wd] ++ (q'.w names).map V.str)) h2 n3
    refine k _ _ _ (same_tr s1 (same_tr s2 s3)) h3 (.lst upd_same ?_)
    rw [hw]
    exact AtL.strs.mpr rfl
end
/-! ### text E1 -/
/-! ## the rows of a deal -/
inductive All2 {α β : Type} (R : α → β → Prop) : List α → List β → Prop
  | nil : All2 R [] []
  | cons {a : α} {b : β} {as : List α} {bs : List β} : R a b → All2 R as bs → All2 R (a :: as) (b :: bs)
theorem All2.snoc {α β : Type} {R : α → β → Prop} {a : α} {b : β} : ∀ {as : List α} {bs : List β}, All2 R as bs → R a b → All2 R (as ++ [a]) (bs ++ [b])
  | _, _, .nil, h => .cons h .nil
  | _, _, .cons r t, h => .cons r (t.snoc h)
theorem All2.mem {α β : Type} {R : α → β → Prop} {b : β} : ∀ {as : List α} {bs : List β}, All2 R as bs → b ∈ bs → ∃ a ∈ as, R a b
  | _, _, .nil, h => absurd h (by simp)
  | _, _, .cons r t, h => by
    rcases List.mem_cons.mp h with rfl | h
    · exact ⟨_, List.mem_cons_self, r⟩
    · obtain ⟨a, ha, hr⟩ := t.mem h
      exact ⟨a, List.mem_cons_of_mem _ ha, hr⟩
theorem All2.len {α β : Type} {R : α → β → Prop} : ∀ {as : List α} {bs : List β}, All2 R as bs → as.length = bs.length
  | _, _, .nil => rfl
  | _, _, .cons _ t => by rw [List.length_cons, List.length_cons, t.len]
theorem All2.rows {α : Type} {R R' : α → List Str → Prop} (h : ∀ a w, R a w → R' a w) : ∀ {as : List α} {ws : List (List Str)}, All2 R as ws → Rows R' as (ws.map (· ++ sc1))
  | _, _, .nil => .nil
  | _, _, .cons r t => .cons (h _ _ r) (t.rows h)
theorem HoW.len {lo : Nat} {hi : Option Nat} {ws : List Str} (h : HoW lo hi ws) : ws.length ≤ 3 := by
  induction h with
  | open0 => exact Nat.le_succ_of_le (Nat.le_succ_of_le (Nat.le_refl 1))
  | open1 n => exact Nat.le_succ_of_le (Nat.le_refl 2)
  | one n => exact Nat.le_succ_of_le (Nat.le_succ_of_le (Nat.le_refl 1))
  | two n m => exact Nat.le_refl 3
theorem AtL.getE {α : Type} {D : Hp} {xs : List V} {as : List α} {enc : α → PyData} {i : Nat} {x : V} (h : AtL D xs (as.map enc)) (hx : xs[i]? = some x) : ∃ e, as[i]? = some e ∧ At D x (enc e) := by
  obtain ⟨d, hd, hat⟩ := h.getV hx
  rw [List.getElem?_map, Option.map_eq_some_iff] at hd
  obtain ⟨e, he, rfl⟩ := hd
  exact ⟨e, he, hat⟩
def rowD (r : List Str) : PyData := .list (r.map .str)
/-- an ask's words, told -/
def AsT (names : List Str) (a : As) (w : List Str) : Prop := Tw (a.w names) w
/-- what lines makes -/
def Told0 (d : Deal) (rows : List (List Str)) : Prop := ∃ rw kw aw, All2 RdW d.roads rw ∧ All2 (fun k w => w = knW d.names k) d.known kw ∧ All2 (AsT d.names) d.asks aw ∧
  rows = (((("places" : Str) :: d.places) :: [("in" : Str), d.inn] :: [("out" : Str), d.out] :: (rw ++ kw ++ aw)).map (· ++ sc1) : List (List Str))
def LinesOk (d : Deal) : Prop := d.places.length ≤ 1000 ∧ d.roads.length ≤ 1000 ∧ d.known.length ≤ 1000 ∧ d.asks.length ≤ 1000 ∧ (∀ r ∈ d.roads, r.lo ≤ 10 ^ 30 ∧ ∀ h, r.hi = some h → h ≤ 10 ^ 30) ∧
  (∀ k ∈ d.known, k.1 ≤ 10 ^ 30 ∧ k.2.length ≤ 1000 ∧ ∀ i ∈ k.2, i < d.roads.length) ∧ ∀ a ∈ d.asks, a.Lt d.roads.length
def spLines : Sp := fun vs H Q _ => ∃ (D : Hp) (S : Addr) (fr : List (Addr × HO)) (p : Addr) (d : Deal), vs = [.ref S, .ref p] ∧ Sk D S fr H ∧ DealAt D p d ∧ LinesOk d ∧
  ∀ (D' H' : Hp) (v : V) (rows : List (List Str)), Same D D' → Sk D' S fr H' → Told0 d rows → At D' v (.list (rows.map rowD)) → Q v H'
theorem Tw.len {a b : List Str} (h : Tw a b) : b.length = a.length := by
  cases h with
  | same _ => rfl
  | shuf _ p => simp [p.length_eq]
theorem As.w_len {names : List Str} {m : Nat} : ∀ {q : As}, q.Lt m → (q.w names).length ≤ 1020
  | .least q, h => by simp only [As.w, List.length_cons]; have := Qu.w_len (names := names) (q := q) h; omega
  | .most q, h => by simp only [As.w, List.length_cons]; have := Qu.w_len (names := names) (q := q) h; omega
  | .followers a, h => by simp only [As.w, List.length_cons, List.length_nil]; omega
  | .sure, h => by simp only [As.w, List.length_cons, List.length_nil]; omega
  | .say s, h => by simp only [As.w, List.length_cons]; have := Sa.w_len (names := names) (q := s) h.1; have := h.2; omega
section
variable {P : Program} {w : World} {K : PySem.W.Frag} {mg : Str → Option Value} {base : Heap}
theorem sc_law_lines : FnScope ["_law_stock_here", "_law_deal_here", "_law_names", "_law_rows", "_law_name", "_law_foot", "_law_head", "_law_low", "_law_high", "_law_times", "_law_trip", "_law_road", "_law_spot", "_law_ask", "_law_row"] ["_law_stock_here", "_law_deal_here"] (defScope s_law_lines) := ⟨rfl, rfl, rfl, by decide +kernel, rfl, by decide +kernel, by decide +kernel⟩
theorem c_law_lines (T : Txt K mg) : C8.Cal P w K mg base 13 "_law_lines" spLines [] := by
  have h_law_hole_tokens : C8.Cal P w K mg base 2 "_law_hole_tokens" spHole [] := c_law_hole_tokens T
  have h_law_told_words : C8.Cal P w K mg base 3 "_law_told_words" spTold [] := c_law_told_words T
  have h_law_ask_words : C8.Cal P w K mg base 12 "_law_ask_words" spAW [] := c_law_ask_words T
  refine cal_mk T.d_law_lines sc_law_lines (fun _ _ _ _ _ _ us hl => match us, hl with | [_, _], _ => rfl) (fun vs H Q E h => ?_) (fun f cdv A outer s H vs Q E hr h => ?_)
  · obtain ⟨D, S, fr, p, d, rfl, _⟩ := h
    rfl
  obtain ⟨D, S, fr, p, d, rfl, h, ⟨vp, vr, vk, va, hp, dv⟩, ⟨lp, lr, lk, la, okr, okk, oka⟩, k⟩ := h
  refine ⟨_, (pss_cons (ps_set (i := 2) sc_law_lines.nd rfl (Or.inr rfl) (pe_lc (g := _) (tt := tYes) (te := (tOp (rIxT K) _ _)) (own := [("_law_road", 11)]) rfl sc_law_lines.nd (pi_list (pe_dget (hu_of hr) (pv 1) pe_str (fun _ _ => rfl))) (blkOk_by (by kernel_rfl)) (fun _ _ _ _ _ => (pg_name (i := 11) sc_law_lines.nd rfl (.inl rfl))) (fun _ _ _ _ _ => pts_nil) (fun _ _ _ _ _ => (pe_ix ix_tup (pv 11) pe_int (fun _ _ => rfl))))) (pss_cons (ps_set (i := 3) sc_law_lines.nd rfl (Or.inl rfl) (pe_lst (pa_cons (pe_op op_cat (pe_lst (pa_cons pe_str pa_nil)) (pe_dget (hu_of hr) (pv 1) pe_str (fun _ _ => rfl))) (pa_cons (pe_lst (pa_cons pe_str (pa_cons (pe_dget (hu_of hr) (pv 1) pe_str (fun _ _ => rfl)) pa_nil))) (pa_cons (pe_lst (pa_cons pe_str (pa_cons (pe_dget (hu_of hr) (pv 1) pe_str (fun _ _ => rfl)) pa_nil))) pa_nil))))) (pss_cons (ps_for PassesOwn.never rfl (pi_list (pe_dget (hu_of hr) (pv 1) pe_str (fun _ _ => rfl))) (pg_tup rfl (pgs_cons (pg_name (i := 4) sc_law_lines.nd rfl (.inl rfl)) (pgs_cons (pg_name (i := 5) sc_law_lines.nd rfl (.inl rfl)) (pgs_cons (pg_name (i := 6) sc_law_lines.nd rfl (.inl rfl)) (pgs_cons (pg_name (i := 7) sc_law_lines.nd rfl (.inl rfl)) (pgs_cons (pg_name (i := 8) sc_law_lines.nd rfl (.inl rfl)) pgs_nil)))))) (pss_one (ps_expr (pe_bm PySem.F.plainAttrs_list PySem.F.slot_list_append PySem.F.type_list_append mt_append (pv 3) (pa_cons (pe_op op_cat (pe_lst (pa_cons pe_str (pa_cons (pv 4) (pa_cons pe_str (pa_cons (pv 5) (pa_cons pe_str (pa_cons (pv 6) pa_nil))))))) (C8.pe_c h_law_hole_tokens hr (by decide) rfl (pa_cons (pv 0) (pa_cons (pv 7) (pa_cons (pv 8) pa_nil))))) pa_nil))))) (pss_cons (ps_for PassesOwn.never rfl (pi_list (pe_dget (hu_of hr) (pv 1) pe_str (fun _ _ => rfl))) (pg_tup rfl (pgs_cons (pg_name (i := 9) sc_law_lines.nd rfl (.inl rfl)) (pgs_cons (pg_name (i := 10) sc_law_lines.nd rfl (.inl rfl)) pgs_nil))) (pss_one (ps_expr (pe_bm PySem.F.plainAttrs_list PySem.F.slot_list_append PySem.F.type_list_append mt_append (pv 3) (pa_cons (pe_op op_cat (pe_lst (pa_cons pe_str (pa_cons (pe_callTy call_str_int (by rfl) T.b_str boot_str (pa_cons (pv 9) pa_nil)) (pa_cons pe_str pa_nil)))) (pe_lc (g := _) (tt := tYes) (te := (tOp (rIxL K) _ _)) (own := [("_law_spot", 12)]) rfl sc_law_lines.nd (pi_tup (pv 10)) (blkOk_by (by kernel_rfl)) (fun _ _ _ _ _ => (pg_name (i := 12) sc_law_lines.nd rfl (.inl rfl))) (fun _ _ _ _ _ => pts_nil) (fun _ _ _ _ _ => (pe_ix ix_list (pv 2) (pv 12) (fun _ _ => rfl))))) pa_nil))))) (pss_cons (ps_set (i := 3) sc_law_lines.nd rfl (Or.inl rfl) (pe_op op_cat (pv 3) (pe_lc (g := _) (tt := tYes) (te := _) (own := [("_law_ask", 13)]) rfl sc_law_lines.nd (pi_list (pe_dget (hu_of hr) (pv 1) pe_str (fun _ _ => rfl))) (blkOk_by (by kernel_rfl)) (fun _ _ _ _ _ => (pg_name (i := 13) sc_law_lines.nd rfl (.inl rfl))) (fun _ _ _ _ _ => pts_nil) (fun _ _ _ _ _ => (C8.pe_c h_law_told_words hr (by decide) rfl (pa_cons (pv 0) (pa_cons (pv 2) (pa_cons (C8.pe_c h_law_ask_words hr (by decide) rfl (pa_cons (pv 2) (pa_cons (pv 13) pa_nil))) pa_nil)))))))) (pss_one (ps_ret (pe_lc (g := _) (tt := tYes) (te := (tOp rCat _ _)) (own := [("_law_row", 14)]) rfl sc_law_lines.nd (pi_list (pv 3)) (blkOk_by (by kernel_rfl)) (fun _ _ _ _ _ => (pg_name (i := 14) sc_law_lines.nd rfl (.inl rfl))) (fun _ _ _ _ _ => pts_nil) (fun _ _ _ _ _ => (pe_op op_cat (pv 14) (pe_lst (pa_cons pe_str pa_nil)))))))))))), ?_⟩
  show tSeq _ _ _ [some (.ref S), some (.ref p), none, none, none, none, none, none, none, none, none, none, none, none, none] H
  have gI : Ground (fun D fr H => Sk D S fr H) := ground_Sk
  obtain ⟨pp, px, ep, hpp, hpx⟩ := dv.pl.lst_is
  subst ep
  obtain rfl := AtL.strs.mp hpx
  obtain ⟨pr, rx, er, hpr, hrx⟩ := dv.ro.lst_is
  subst er
  obtain ⟨pk, kx, ek, hpk, hkx⟩ := dv.kn.lst_is
  subst ek
  obtain ⟨pas, ax, ea, hpa, hax⟩ := dv.as.lst_is
  subst ea
  walk_at "st"
  refine ⟨_, dg_roads (h.same _ _ hp), _, rfl, ⟨_, SqL.of (h.same _ _ hpr)⟩, ?_⟩
  refine gathE gI (src_list gI (.inl hpr) hrx) h (fun r : Rd => PyData.str r.nm) (by omega) ?_ ?_
  · intro j y r D5 q5 H5 hr5 hy s5 h5 My Mn myes
    obtain ⟨b, v5, rfl, hb, _⟩ := rd_at hy
    have hb5 := h5.same _ _ hb
    walk_at "rd"
    refine ⟨_, SqT.of hb5, _, rfl, ?_⟩
    exact myes _ _ _ same_rfl h5 (.str _)
  intro D1 H1 v1 s1 h1 hv1
  obtain ⟨pn, nx, rfl, hpn, hnx⟩ := hv1.lst_is
  have hnx2 : nx = d.names.map V.str := AtL.strs.mp (by rw [Deal.names, List.map_map]; exact hnx)
  subst hnx2
  walk_at "st"
  intro p2 n2
  obtain ⟨h2, s2⟩ := h1.new n2 (.lst [.str "places"])
  have t2 := same_tr s1 s2
  refine ⟨_, dg_places (h2.same _ _ (t2 _ _ hp)), _, rfl, _, h2.same _ _ upd_same, _, h2.same _ _ (t2 _ _ hpp), sz (by simp; omega), fun p3 n3 => ?_⟩
  obtain ⟨h3, s3⟩ := h2.new n3 (.lst ([.str "places"] ++ d.places.map V.str))
  have t3 := same_tr t2 s3
  refine ⟨_, dg_in (h3.same _ _ (t3 _ _ hp)), fun p4 n4 => ?_⟩
  obtain ⟨h4, s4⟩ := h3.new n4 (.lst [.str "in", .str d.inn])
  have t4 := same_tr t3 s4
  refine ⟨_, dg_out (h4.same _ _ (t4 _ _ hp)), fun p5 n5 => ?_⟩
  obtain ⟨h5, s5⟩ := h4.new n5 (.lst [.str "out", .str d.out])
  have t5 := same_tr t4 s5
  intro p6 n6
  have h6 := h5.put n6 (.lst [.ref p3, .ref p4, .ref p5])
  have a6 : AtL _ [.ref p3, .ref p4, .ref p5] ((((("places" : Str) :: d.places) :: [("in" : Str), d.inn] :: [[("out" : Str), d.out]] : List (List Str))).map rowD) :=
    .cons (.lst (s5 _ _ (s4 _ _ upd_same)) (AtL.strs.mpr rfl)) (.cons (.lst (s5 _ _ upd_same) (AtL.strs.mpr rfl)) (.cons (.lst upd_same (AtL.strs.mpr rfl)) .nil))
  have hpn5 := s5 _ _ (s4 _ _ (s3 _ _ (s2 _ _ hpn)))
  walk_at "st"
  refine ⟨_, dg_roads (h6.same _ _ (t5 _ _ hp)), _, rfl, ⟨_, SqL.of (h6.same _ _ (t5 _ _ hpr))⟩, ?_⟩
  refine loop_f (walk_list (xs := rx)) (fun i σ H' => ∃ (D' : Hp) (rv : List V) (rw : List (List Str)) (x4 x5 x6 x7 x8 : Option V), σ = [some (.ref S), some (.ref p), some (.ref pn), some (.ref p6), x4, x5, x6, x7, x8, none, none, none, none, none, none] ∧ Same D D' ∧ Sk D' S ((p6, .lst rv) :: fr) H' ∧
      D' pn = some (.lst (d.names.map V.str)) ∧ AtL D' rv (((((("places" : Str) :: d.places) :: [("in" : Str), d.inn] :: [[("out" : Str), d.out]] : List (List Str))) ++ rw).map rowD) ∧ All2 RdW (d.roads.take i) rw)
    ⟨_, _, [], _, _, _, _, _, rfl, t5, h6, hpn5, by rw [List.append_nil]; exact a6, .nil⟩ (fun i σ H' _ hh => by
      obtain ⟨D', rv, rw, x4, x5, x6, x7, x8, _, s, h, _⟩ := hh
      exact SqL.of (h.same _ _ (s _ _ hpr))) ?_ ?_
  · rintro i x σ H7 H8 hi ⟨D7, rv, rw, x4, x5, x6, x7, x8, rfl, s7, h7, hpn7, a7, r7⟩ ⟨rfl, hy⟩ N hN
    obtain ⟨r, hr7, hx⟩ := (hrx.up s7).getE hy
    obtain ⟨b, v5, rfl, hb, hv5⟩ := rd_at hx
    have hb7 := h7.same _ _ hb
    obtain ⟨o1, o2⟩ := okr r (List.mem_of_getElem? hr7)
    walk_at "rd"
    refine ⟨_, SqT.of hb7, rfl, _, _, rfl, _, _, rfl, _, _, rfl, _, _, rfl, _, _, rfl, rfl, ?_⟩
    walk_at "rd"
    refine ⟨.inl ⟨rfl, _, SqL.of (h7.get 0 rfl)⟩, fun p8 n8 => ?_⟩
    obtain ⟨h8, s8⟩ := h7.new n8 (.lst [.str "road", .str r.nm, .str ":", .str r.ft, .str ">", .str r.hd])
    refine ⟨_, S, _, r.lo, r.hi, v5, rfl, h8, hv5.up s8, o1, o2, fun D9 H9 v9 ws s9 h9 hw9 hv9 => ?_⟩
    obtain ⟨p9, x9, rfl, hp9, hx9⟩ := hv9.lst_is
    obtain rfl := AtL.strs.mp hx9
    have hwl : ws.length ≤ 3 := hw9.len
    walk_at "rd"
    refine ⟨_, h9.same _ _ (s9 _ _ upd_same), _, h9.same _ _ hp9, sz (by simp; omega), fun p10 n10 => ?_⟩
    obtain ⟨h10, s10⟩ := h9.new n10 (.lst ([.str "road", .str r.nm, .str ":", .str r.ft, .str ">", .str r.hd] ++ ws.map V.str))
    have s7' := same_tr s8 (same_tr s9 s10)
    have hrl := a7.len
    have hrl2 := r7.len
    refine ⟨_, h10.get 0 rfl, szl (by simp at hrl hrl2; omega), hN _ _ ⟨_, _, rw ++ [("road" : Str) :: r.nm :: (":" : Str) :: r.ft :: (">" : Str) :: r.hd :: ws], _, _, _, _, _, rfl, same_tr s7 s7', h10.upd 0 rfl _, s7' _ _ hpn7, ?_, ?_⟩⟩
    · rw [← List.append_assoc, List.map_append]
      exact (a7.up s7').snoc (.lst upd_same (AtL.strs.mpr rfl))
    · rw [List.take_add_one, hr7]
      exact r7.snoc (.mk hw9)
  rintro σ H7 ⟨D7, rv, rw, x4, x5, x6, x7, x8, rfl, s7, h7, hpn7, a7, r7⟩
  have hrl := hrx.len
  rw [List.length_map] at hrl
  rw [hrl, List.take_length] at r7
  walk_at "st"
  walk_at "st"
  refine ⟨_, dg_known (h7.same _ _ (s7 _ _ hp)), _, rfl, ⟨_, SqL.of (h7.same _ _ (s7 _ _ hpk))⟩, ?_⟩
  refine loop_f (walk_list (xs := kx)) (fun i σ H' => ∃ (D' : Hp) (rv : List V) (kw : List (List Str)) (x9 x10 : Option V), σ = [some (.ref S), some (.ref p), some (.ref pn), some (.ref p6), x4, x5, x6, x7, x8, x9, x10, none, none, none, none] ∧ Same D D' ∧ Sk D' S ((p6, .lst rv) :: fr) H' ∧
      D' pn = some (.lst (d.names.map V.str)) ∧ AtL D' rv (((((("places" : Str) :: d.places) :: [("in" : Str), d.inn] :: [[("out" : Str), d.out]] : List (List Str))) ++ rw ++ kw).map rowD) ∧ All2 (fun k w => w = knW d.names k) (d.known.take i) kw)
    ⟨_, _, [], _, _, rfl, s7, h7, hpn7, by rw [List.append_nil]; exact a7, .nil⟩ (fun i σ H' _ hh => by
      obtain ⟨D', rv, rw, x9, x10, _, s, h, _⟩ := hh
      exact SqL.of (h.same _ _ (s _ _ hpk))) ?_ ?_
  · rintro i x σ H9 H10 hi ⟨D9, rv, kw, x9, x10, rfl, s9, h9, hpn9, a9, r9⟩ ⟨rfl, hy⟩ N hN
    obtain ⟨e, he9, hx⟩ := (hkx.up s9).getE hy
    obtain ⟨b, c, rfl, hb, hc⟩ := kn_at hx
    have hb9 := h9.same _ _ hb
    obtain ⟨o1, o2, o3⟩ := okk e (List.mem_of_getElem? he9)
    walk_at "rd"
    refine ⟨_, SqT.of hb9, rfl, _, _, rfl, _, _, rfl, rfl, ?_⟩
    walk_at "rd"
    refine ⟨.inl ⟨rfl, _, SqL.of (h9.get 0 rfl)⟩, num_lt o1, fun p8 n8 => ?_⟩
    obtain ⟨h10, s10⟩ := h9.new n8 (.lst [.str "known", .str (num e.1), .str ":"])
    refine ⟨⟨_, SqT.of (h10.same _ _ (s10 _ _ hc))⟩, ?_⟩
    refine gathE gI (src_tup (enc := iN) gI (.inl (s10 _ _ hc)) (AtL.nats.mpr rfl)) h10 (fun i => .str (nmAt d.names i)) (by omega) ?_ ?_
    · intro j y m D5 q5 H5 hm hy s5 h5 My Mn myes
      obtain rfl := hy.int_is
      walk_at "rd"
      exact ⟨_, SqL.of (h5.same _ _ (s5 _ _ (s10 _ _ hpn9))), _, nmV_at (by rw [Deal.names, List.length_map]; exact o3 m (List.mem_of_getElem? hm)), myes _ _ _ same_rfl h5 (.str _)⟩
    intro D11 H11 v11 s11 h11 hv11
    obtain ⟨p11, x11, rfl, hp11, hx11⟩ := hv11.lst_is
    have hx12 : x11 = (e.2.map (nmAt d.names)).map V.str := AtL.strs.mp (by rw [List.map_map]; exact hx11)
    subst hx12
    walk_at "rd"
    refine ⟨_, h11.same _ _ (s11 _ _ upd_same), _, h11.same _ _ hp11, sz (by simp; omega), fun p12 n12 => ?_⟩
    obtain ⟨h12, s12⟩ := h11.new n12 (.lst ([.str "known", .str (num e.1), .str ":"] ++ (e.2.map (nmAt d.names)).map V.str))
    have s9' := same_tr s10 (same_tr s11 s12)
    have hrl3 := a9.len
    have hrl4 := r7.len
    have hrl5 := r9.len
    refine ⟨_, h12.get 0 rfl, szl (by simp at hrl3 hrl5; omega), hN _ _ ⟨_, _, kw ++ [knW d.names e], _, _, rfl, same_tr s9 s9', h12.upd 0 rfl _, s9' _ _ hpn9, ?_, ?_⟩⟩
    · rw [← List.append_assoc, List.map_append]
      exact (a9.up s9').snoc (.lst upd_same (AtL.strs.mpr rfl))
    · rw [List.take_add_one, he9]
      exact r9.snoc rfl
  rintro σ H9 ⟨D9, rv, kw, x9, x10, rfl, s9, h9, hpn9, a9, r9⟩
  have hkl := hkx.len
  rw [List.length_map] at hkl
  rw [hkl, List.take_length] at r9
  walk_at "st"
  walk_at "st"
  refine ⟨_, dg_asks (h9.same _ _ (s9 _ _ hp)), _, rfl, ⟨_, SqL.of (h9.same _ _ (s9 _ _ hpa))⟩, ?_⟩
  refine gathO gI (src_list gI (.inl (s9 _ _ hpa)) (hax.up s9)) h9 rowD (fun i bs => All2 (AsT d.names) (d.asks.take i) bs) .nil (fun i bs _ ho => by rw [← ho.len, List.length_take]; omega) (by omega) ?_ ?_
  · intro i y a D5 q5 H5 bs ha hy ho s5 h5 My Mn myes mno
    have hal := oka a (List.mem_of_getElem? ha)
    have hpn5 := s5 _ _ hpn9
    walk_at "rd"
    refine ⟨_, D5, _, pn, d.names, y, a, gI, rfl, h5, .inl hpn5, hy, by rw [Deal.names, List.length_map]; exact hal, fun D6 H6 v6 s6 h6 hv6 => ?_⟩
    obtain ⟨p6', x6', rfl, hp6', hx6'⟩ := hv6.lst_is
    obtain rfl := AtL.strs.mp hx6'
    have hwl := As.w_len (names := d.names) hal
    refine ⟨D6, S, _, _, p6', _, rfl, h6, hp6', by omega, fun D7 H7 v7 ws s7 h7 hw7 hv7 => ?_⟩
    refine myes _ _ _ _ (same_tr s6 s7) h7 hv7 ?_
    rw [List.take_add_one, ha]
    exact ho.snoc hw7
  intro D11 H11 q11 wv aw s11 h11 a11 r11
  rw [List.take_length] at r11
  obtain ⟨h12, s12⟩ := h11.fix
  walk_at "rd"
  have hrl3 := a9.len
  have hrl4 := r7.len
  have hrl5 := r9.len
  have hrl6 := a11.len
  have hrl7 := r11.len
  simp at hrl3 hrl6
  refine ⟨_, h12.get 0 rfl, _, h12.same _ _ upd_same, sz (by omega), fun p13 n13 => ?_⟩
  obtain ⟨h13, s13⟩ := h12.new n13 (.lst (rv ++ wv))
  have a13 : AtL (upd (upd D11 q11 (.lst wv)) p13 (.lst (rv ++ wv))) (rv ++ wv) (((((("places" : Str) :: d.places) :: [("in" : Str), d.inn] :: [[("out" : Str), d.out]] : List (List Str))) ++ rw ++ kw ++ aw).map rowD) := by
    rw [List.map_append]
    exact (a9.up (same_tr s11 (same_tr s12 s13))).app (a11.up (same_tr s12 s13))
  have hlen : ∀ r ∈ ((((("places" : Str) :: d.places) :: [("in" : Str), d.inn] :: [[("out" : Str), d.out]] : List (List Str))) ++ rw ++ kw ++ aw), r.length ≤ 2000 := by
    intro r hr
    simp only [List.mem_append, List.mem_cons, List.not_mem_nil, or_false] at hr
    rcases hr with ((((rfl | rfl | rfl) | hr) | hr) | hr)
    · simp only [List.length_cons]; omega
    · simp
    · simp
    · obtain ⟨a, ha, hw⟩ := r7.mem hr
      cases hw with
      | mk hw => have := hw.len; simp only [List.length_cons]; omega
    · obtain ⟨a, ha, rfl⟩ := r9.mem hr
      have := (okk a ha).2.1
      simp only [knW, List.length_cons, List.length_map]
      omega
    · obtain ⟨a, ha, hw⟩ := r11.mem hr
      have h1 := Tw.len hw
      have h2 := As.w_len (names := d.names) (oka a ha)
      omega
  walk_at "st"
  refine ⟨⟨_, SqL.of upd_same⟩, ?_⟩
  refine gathE gI (src_list (enc := rowD) gI (.inl upd_same) a13) h13 (fun r => rowD (r ++ sc1)) (by simp; omega) ?_ ?_
  · intro i y r D5 q5 H5 hr hy s5 h5 My Mn myes
    obtain ⟨pr5, x5, rfl, hp5, hx5⟩ := hy.lst_is
    obtain rfl := AtL.strs.mp hx5
    have hl5 := hlen r (List.mem_of_getElem? hr)
    walk_at "rd"
    intro p14 n14
    have h14 := gI.tmp (.lst [.str ";"]) h5 n14
    refine ⟨_, h14.same _ _ hp5, _, upd_same, sz (by simp; omega), fun p15 n15 => ?_⟩
    obtain ⟨h15, s15⟩ := gI.new (.lst (r.map V.str ++ [.str ";"])) h14 n15
    refine myes _ _ _ s15 h15 (.lst upd_same ?_)
    exact AtL.strs.mpr (by rw [List.map_append]; rfl)
  intro D15 H15 v15 s15 h15 hv15
  refine k _ _ _ _ (same_tr s9 (same_tr s11 (same_tr s12 (same_tr s13 s15)))) (h15.drop 0) ⟨rw, kw, aw, r7, r9, r11, rfl⟩ ?_
  rw [List.map_map]
  rw [List.append_assoc, List.append_assoc] at hv15
  rw [List.append_assoc]
  exact hv15
end
/-! ### text F8 -/
structure Raw (d : Deal) (ns : List Str) (many : Nat) (es : List (Nat × Nat)) : Prop where
  nm : ∀ n ∈ ns, Nm n
  nd : ns.Nodup
  len : ns.length = many + es.length
  m2 : 2 ≤ many
  m7 : many ≤ 7
  ne : es ≠ []
  few : es.length ≤ 16
  edge : ∀ e ∈ es, EdgeOk many e
  places : d.places.Perm (ns.take many)
  inn : d.inn = nmAt ns 0
  out : d.out = nmAt ns (many - 1)
  roadsN : d.roads.length = es.length
  roads : ∀ (j : Nat) (e : Nat × Nat), es[j]? = some e → ∃ lo hi, d.roads[j]? = some ⟨nmAt ns (many + j), nmAt ns e.1, nmAt ns e.2, lo, hi⟩ ∧ lo ≤ 10 ^ 28 ∧ ∀ h, hi = some h → lo ≤ h ∧ h ≤ 10 ^ 28
  known : ∀ k ∈ d.known, 1 ≤ k.1 ∧ k.1 ≤ 10 ^ 30 ∧ Path es 0 k.2 (many - 1) ∧ k.2 ≠ [] ∧ k.2.length ≤ 6
  knownN : d.known.length ≤ 2
  asks : ∀ a ∈ d.asks, AsOk es a
  asksN : d.asks.length ≤ 5
def spDeal : Sp := fun vs H Q _ => ∃ (D : Hp) (S : Addr) (fr : List (Addr × HO)) (many more asks : Nat), vs = [.ref S, vN many, vN more, vN asks] ∧ Sk D S fr H ∧ 2 ≤ many ∧ many ≤ 7 ∧ more ≤ 4 ∧ asks ≤ 5 ∧
  ∀ (D' H' : Hp) (q : Addr) (d : Deal) (ns : List Str) (es : List (Nat × Nat)), Same D D' → Sk D' S fr H' → Raw d ns many es → DealAt D' q d → Q (.ref q) H'
section
variable {P : Program} {w : World} {K : PySem.W.Frag} {mg : Str → Option Value} {base : Heap}
theorem sc_law_deal : FnScope ["_law_stock_here", "_law_many", "_law_more", "_law_asks", "_law_net_here", "_law_names", "_law_places", "_law_roads", "_law_name", "_law_foot", "_law_head", "_law_low", "_law_high", "_law_deal_here", "_law_trips_here", "_law_turn"] ["_law_stock_here", "_law_many", "_law_more", "_law_asks"] (defScope s_law_deal) := ⟨rfl, rfl, rfl, by decide +kernel, rfl, by decide +kernel, by decide +kernel⟩
theorem c_law_deal (T : Txt K mg) : C8.Cal P w K mg base 7 "_law_deal" spDeal [] := by
  have h_law_draw : C8.Cal P w K mg base 1 "_law_draw" spDraw [] := c_law_draw T
  have h_law_pick : C8.Cal P w K mg base 2 "_law_pick" spPick [] := c_law_pick T
  have h_law_shuffled : C8.Cal P w K mg base 2 "_law_shuffled" spShuf [] := c_law_shuffled T
  have h_law_net : C8.Cal P w K mg base 3 "_law_net" spNet [] := c_law_net T
  have h_law_unlike : C8.Cal P w K mg base 3 "_law_unlike" spUnlike [] := c_law_unlike T
  have h_law_hole : C8.Cal P w K mg base 3 "_law_hole" spHoleM [] := c_law_hole T
  have h_law_trips : C8.Cal P w K mg base 1 "_law_trips" spTrips [] := c_law_trips T
  have h_law_asked : C8.Cal P w K mg base 6 "_law_asked" spAsked [] := c_law_asked T
  refine cal_mk T.d_law_deal sc_law_deal (fun _ _ _ _ _ _ us hl => match us, hl with | [_, _, _, _], _ => rfl) (fun vs H Q E h => ?_) (fun f cdv A outer s H vs Q E hr h => ?_)
  · obtain ⟨D, S, fr, many, more, asks, rfl, _⟩ := h
    rfl
  obtain ⟨D, S, fr, many, more, asks, rfl, h, m2, m7, mo, ma, k⟩ := h
  refine ⟨_, (pss_cons (ps_set (i := 4) sc_law_deal.nd rfl (Or.inr rfl) (C8.pe_c h_law_net hr (by decide) rfl (pa_cons (pv 0) (pa_cons (pv 1) (pa_cons (pv 2) pa_nil))))) (pss_cons (ps_set (i := 5) sc_law_deal.nd rfl (Or.inl rfl) (C8.pe_c h_law_unlike hr (by decide) rfl (pa_cons (pv 0) (pa_cons (pe_op op_add (pv 1) (pe_callB call_len_seq (by rfl) T.b_len PySem.boot_len (pa_cons (pe_ix ix_tup (pv 4) pe_int (fun _ _ => rfl)) pa_nil))) pa_nil)))) (pss_cons (ps_par (i := 6) (j := 7) rfl sc_law_deal.nd rfl rfl (by decide) rfl rfl (pa_cons (pe_slice sl_list (pv 5) po_none (po_some (pv 1))) (pa_cons (pe_lst pa_nil) pa_nil)) (by rfl)) (pss_cons (ps_for PassesOwn.never rfl (pi_zipLT (by rfl) T.b_zip (pa_cons (pe_slice sl_list (pv 5) (po_some (pv 1)) po_none) (pa_cons (pe_ix ix_tup (pv 4) pe_int (fun _ _ => rfl)) pa_nil))) (pg_tup rfl (pgs_cons (pg_name (i := 8) sc_law_deal.nd rfl (.inl rfl)) (pgs_cons (pg_tup rfl (pgs_cons (pg_name (i := 9) sc_law_deal.nd rfl (.inl rfl)) (pgs_cons (pg_name (i := 10) sc_law_deal.nd rfl (.inl rfl)) pgs_nil))) pgs_nil))) (pss_cons (ps_asg (C8.pe_c h_law_hole hr (by decide) rfl (pa_cons (pv 0) pa_nil)) (pg_tup rfl (pgs_cons (pg_name (i := 11) sc_law_deal.nd rfl (.inl rfl)) (pgs_cons (pg_name (i := 12) sc_law_deal.nd rfl (.inl rfl)) pgs_nil)))) (pss_one (ps_expr (pe_bm PySem.F.plainAttrs_list PySem.F.slot_list_append PySem.F.type_list_append mt_append (pv 7) (pa_cons (pe_tup (pa_cons (pv 8) (pa_cons (pe_ix ix_list (pv 6) (pv 9) (fun _ _ => rfl)) (pa_cons (pe_ix ix_list (pv 6) (pv 10) (fun _ _ => rfl)) (pa_cons (pv 11) (pa_cons (pv 12) pa_nil)))))) pa_nil)))))) (pss_cons (ps_set (i := 13) sc_law_deal.nd rfl (Or.inl rfl) (pe_disp (pps_cons pe_str (C8.pe_c h_law_shuffled hr (by decide) rfl (pa_cons (pv 0) (pa_cons (pv 6) pa_nil))) (pps_cons pe_str (pe_ix ix_list (pv 6) pe_int (fun _ _ => rfl)) (pps_cons pe_str (pe_ix ix_list (pv 6) (pe_un un_neg pe_int) (fun _ _ => rfl)) (pps_cons pe_str (pv 7) (pps_cons pe_str (pe_lst pa_nil) pps_nil))))) (by rfl) (by rfl) (fun z => by cases z) (by decide))) (pss_cons (ps_set (i := 14) sc_law_deal.nd rfl (Or.inl rfl) (C8.pe_c h_law_trips hr (by decide) rfl (pa_cons (pv 4) pa_nil))) (pss_cons (ps_for PassesOwn.never rfl (pi_range1 (by rfl) T.b_range (pa_cons (pe_ifExp (pt_cmpR (op_neD hr.units) (pv 14) (pe_lst pa_nil) (nomark _)) (C8.pe_c h_law_draw hr (by decide) rfl (pa_cons (pv 0) (pa_cons pe_int pa_nil))) pe_int) pa_nil)) (pg_name (i := 15) sc_law_deal.nd rfl (.inl rfl)) (pss_one (ps_expr (pe_bm PySem.F.plainAttrs_list PySem.F.slot_list_append PySem.F.type_list_append mt_append (pe_dget (hu_of hr) (pv 13) pe_str (fun _ _ => rfl)) (pa_cons (pe_tup (pa_cons (C8.pe_c h_law_pick hr (by decide) rfl (pa_cons (pv 0) (pa_cons (pe_lst (pa_cons pe_int (pa_cons pe_int (pa_cons pe_int (pa_cons (pe_op op_pow pe_int pe_int) pa_nil))))) pa_nil))) (pa_cons (C8.pe_c h_law_pick hr (by decide) rfl (pa_cons (pv 0) (pa_cons (pv 14) pa_nil))) pa_nil))) pa_nil))))) (pss_cons (ps_dput (hu_of hr) (pv 13) pe_str (pe_lc (g := _) (tt := tYes) (te := _) (own := [("_law_turn", 15)]) rfl sc_law_deal.nd (pi_range1 (by rfl) T.b_range (pa_cons (pv 3) pa_nil)) (blkOk_by (by kernel_rfl)) (fun _ _ _ _ _ => (pg_name (i := 15) sc_law_deal.nd rfl (.inl rfl))) (fun _ _ _ _ _ => pts_nil) (fun _ _ _ _ _ => (C8.pe_c h_law_asked hr (by decide) rfl (pa_cons (pv 0) (pa_cons (pv 4) pa_nil))))) rfl) (pss_one (ps_ret (pv 13))))))))))), ?_⟩
  show tSeq _ _ _ [some (.ref S), some (vN many), some (vN more), some (vN asks), none, none, none, none, none, none, none, none, none, none, none, none] H
  have gI : Ground (fun D fr H => Sk D S fr H) := ground_Sk
  walk_at "st"
  refine ⟨D, S, fr, many, more, rfl, h, m2, m7, mo, fun D1 H1 p pr rx es s1 h1 hnet hne hel hok => ?_⟩
  have hl0 := List.length_pos_iff.mpr hne
  have hrl : rx.length = es.length := by rw [hnet.at_.len, List.length_map]
  have n1 := h1.same _ _ hnet.net
  have r1 := h1.same _ _ hnet.roads
  walk_at "st"
  walk_at "st"
  walk_at "ux"
  refine ⟨_, .inr (SqT.of r1), ?_⟩
  refine ⟨D1, S, fr, many + es.length, by rw [hrl]; rfl, h1, by omega, fun D2 H2 v2 ns s2 h2 nl nnd nnm hv2 => ?_⟩
  obtain ⟨pn, nx, rfl, hpn, hnx⟩ := hv2.lst_is
  obtain rfl := AtL.strs.mp hnx
  walk_at "st"
  walk_at "st"
  refine ⟨_, SqL.of (h2.same _ _ hpn), fun p3 n3 => ?_⟩
  rw [cutV_to, ← List.map_take]
  obtain ⟨h3, s3⟩ := h2.new n3 (.lst ((ns.take many).map V.str))
  have e3 : upd D2 p3 (.lst ((ns.take many).map V.str)) p3 = some (.lst ((ns.take many).map V.str)) := upd_same
  have hpn3 := s3 _ _ hpn
  have t3 := same_tr s2 s3
  generalize upd D2 p3 (.lst ((ns.take many).map V.str)) = D3 at *
  intro p4 n4
  have h4 := h3.put n4 (.lst [])
  walk_at "st"
  refine ⟨_, SqL.of (h4.same _ _ hpn3), fun p5 n5 => ?_⟩
  rw [cutV_from, ← List.map_drop]
  obtain ⟨h5, s5⟩ := h4.new n5 (.lst ((ns.drop many).map V.str))
  have e5 : upd D3 p5 (.lst ((ns.drop many).map V.str)) p5 = some (.lst ((ns.drop many).map V.str)) := upd_same
  have e35 := s5 _ _ e3
  have t5 := same_tr t3 s5
  generalize upd D3 p5 (.lst ((ns.drop many).map V.str)) = D5 at *
  have hnet5 := hnet.up t5
  refine ⟨_, SqT.of (h5.same _ _ hnet5.net), _, rfl, _, rfl, ⟨_, SqL.of (h5.same _ _ e5)⟩, ⟨_, SqT.of (h5.same _ _ hnet5.roads)⟩, ?_⟩
  have hnmV : ∀ v : Nat, v < many → atI ((ns.take many).map V.str) (v : Int) = some (.str (nmAt ns v)) := fun v hv =>
    atI_of rfl (by rw [List.getElem?_map, List.getElem?_take, if_pos hv, nm_at (by omega)] <;> rfl)
  refine loop_f (walk_zipLT (n := es.length) (xs := (ns.drop many).map V.str) (ys := rx) (by rw [List.length_map, List.length_drop, hrl]; omega)) (fun i σ H' => ∃ (D' : Hp) (rv : List V) (rs : List Bk.Rd) (x8 x9 x10 x11 x12 : Option V), σ = [some (.ref S), some (vN many), some (vN more), some (vN asks), some (.ref p), some (.ref pn), some (.ref p3), some (.ref p4), x8, x9, x10, x11, x12, none, none, none] ∧
      Same D5 D' ∧ Sk D' S ((p4, .lst rv) :: fr) H' ∧ AtL D' rv (rs.map Rd.d) ∧ rs.length = i ∧ ∀ (j : Nat) (e : Nat × Nat), j < i → es[j]? = some e → ∃ lo hi, rs[j]? = some ⟨nmAt ns (many + j), nmAt ns e.1, nmAt ns e.2, lo, hi⟩ ∧ lo ≤ 10 ^ 28 ∧ ∀ h, hi = some h → lo ≤ h ∧ h ≤ 10 ^ 28)
    ⟨D5, [], [], _, _, _, _, _, rfl, same_rfl, h5, .nil, rfl, fun j e hj => absurd hj (Nat.not_lt_zero _)⟩ (fun i σ H' _ hh => by
      obtain ⟨D', rv, rs, x8, x9, x10, x11, x12, _, s, h, _⟩ := hh
      exact ⟨SqL.of (h.same _ _ (s _ _ e5)), SqT.of (h.same _ _ (s _ _ hnet5.roads))⟩) ?_ ?_
  · rintro i v σ H6 H7 hii ⟨D6, rv, rs, x8, x9, x10, x11, x12, rfl, s6, h6, a6, l6, g6⟩ ⟨Tp, a, b, rfl, hT, rfl, ha, hb⟩ N hN
    obtain ⟨h7, s7⟩ := h6.new hT (.tup [a, b])
    have ha : ((ns.drop many).map V.str)[i]? = some a := ha
    have hb : rx[i]? = some b := hb
    rw [List.getElem?_map, List.getElem?_drop, nm_at (by omega)] at ha
    cases ha
    obtain ⟨d0, hd0, hat⟩ := hnet5.at_.getV hb
    rw [List.getElem?_map, Option.map_eq_some_iff] at hd0
    obtain ⟨e, he, rfl⟩ := hd0
    obtain ⟨c, rfl, hc⟩ := prN_at hat
    have hc7 := h7.same _ _ (s7 _ _ (s6 _ _ hc))
    have hek := hok e (List.mem_of_getElem? he)
    walk_at "rd"
    refine ⟨_, SqT.of upd_same, rfl, _, _, rfl, _, _, rfl, _, rfl, _, SqT.of hc7, rfl, _, _, rfl, _, _, rfl, rfl, rfl, ?_⟩
    walk_at "st"
    refine ⟨_, S, _, rfl, h7, fun D8 H8 v lo hi s8 h8 b1 b2 hv => ?_⟩
    obtain ⟨pv, u1, u2, rfl, hpv, hu1, hu2⟩ := tu2_at hv
    obtain rfl := hu1.int_is
    walk_at "rd"
    refine ⟨_, SqT.of (h8.same _ _ hpv), rfl, _, _, rfl, _, _, rfl, rfl, ?_⟩
    have e38 := h8.same _ _ (s8 _ _ (s7 _ _ (s6 _ _ e35)))
    have la := a6.len
    rw [List.length_map] at la
    walk_at "st"
    walk_at "st"
    refine ⟨.inl ⟨rfl, _, SqL.of (h8.get 0 rfl)⟩, _, SqL.of e38, _, hnmV e.1 (by have := hek.1; have := hek.2; omega), _, SqL.of e38, _, hnmV e.2 hek.2, fun p9 n9 => ?_⟩
    obtain ⟨h9, s9⟩ := h8.new n9 (.tup [.str (nmAt ns (many + i)), .str (nmAt ns e.1), .str (nmAt ns e.2), vN lo, u2])
    have s69 := same_tr s7 (same_tr s8 s9)
    refine ⟨_, h9.get 0 rfl, szl (by omega), hN _ _ ⟨_, _, rs ++ [⟨nmAt ns (many + i), nmAt ns e.1, nmAt ns e.2, lo, hi⟩], _, _, _, _, _, rfl, same_tr s6 s69, h9.upd 0 rfl _, ?_, by rw [List.length_append, l6] <;> rfl, ?_⟩⟩
    · rw [List.map_append]
      exact (a6.up s69).snoc (.tup upd_same (.cons (.str _) (.cons (.str _) (.cons (.str _) (.cons (.int _) (.cons (hu2.up s9) .nil))))))
    · intro j e' hj he'
      by_cases hji : j < i
      · rw [List.getElem?_append_left (by omega)]
        exact g6 j e' hji he'
      · have : j = i := by omega
        subst this
        rw [he] at he'
        cases he'
        refine ⟨lo, hi, ?_, b1, b2⟩
        rw [List.getElem?_append_right (by omega), l6, Nat.sub_self] <;> rfl
  rintro σ H6 ⟨D6, rv, rs, x8, x9, x10, x11, x12, rfl, s6, h6, a6, l6, g6⟩
  walk_at "st"
  walk_at "st"
  intro pd nd
  have h7 := h6.put nd (.dK [])
  have e36 := s6 _ _ e35
  refine ⟨D6, S, _, p3, _, rfl, h7, .inl e36, by simp; omega, fun D8 H8 pp ys s8 h8 hpp hperm => ?_⟩
  obtain ⟨pl, rfl, hpl⟩ := perm_map_inv hperm _ rfl
  have e38 := h8.same _ _ (s8 _ _ e36)
  walk_at "rd"
  have hlast : ((ns.take many).map V.str).getLast? = some (.str (nmAt ns (many - 1))) := by
    rw [List.getLast?_eq_getElem?, List.length_map, List.length_take, Nat.min_eq_left (by omega), List.getElem?_map, List.getElem?_take, if_pos (by omega), nm_at (by omega)] <;> rfl
  refine ⟨_, SqL.of e38, _, hnmV 0 (by omega), _, SqL.of e38, _, atI_last hlast, fun pk nk => ?_⟩
  have h9 := h8.put nk (.lst [])
  refine ⟨h9.get 1 rfl, [(key "places", .ref pp), (key "in", .str (nmAt ns 0)), (key "out", .str (nmAt ns (many - 1))), (key "roads", .ref p4), (key "known", .ref pk)], rfl, by show 5 ≤ 15; decide, ?_⟩
  have h10 := h9.upd 1 rfl (.dK [(key "places", .ref pp), (key "in", .str (nmAt ns 0)), (key "out", .str (nmAt ns (many - 1))), (key "roads", .ref p4), (key "known", .ref pk)])
  have t8 := same_tr t5 (same_tr s6 s8)
  walk_at "st"
  refine ⟨_, D8, _, p, pr, rx, many, es, gI, rfl, h10, hnet.up t8, hel, hok, m7, fun D11 H11 q wv ts s11 h11 hq aw tl tg => ?_⟩
  have t11 := same_tr t8 s11
  have hnet11 := hnet.up t11
  walk_at "rd"
  rw [u_seq, u_for, u_iRng1, u_cons]
  refine tv_cut (fun v H' => ∃ n : Nat, v = vN n ∧ n ≤ 2 ∧ (n = 0 ∨ ts ≠ []) ∧ Sk D11 S ((pk, .lst []) :: (pd, .dK [(key "places", .ref pp), (key "in", .str (nmAt ns 0)), (key "out", .str (nmAt ns (many - 1))), (key "roads", .ref p4), (key "known", .ref pk)]) :: (p4, .lst rv) :: fr) H') (fun Q' hQ => ?_) ?_
  · walk_at "rd"
    intro p12 n12
    have h12 := h11.tmp n12 (.lst [])
    refine ⟨_, .lst (SqL.of (h12.same _ _ hq)) (AtL.dp h12.same aw), _, .lst (SqL.of upd_same) .nil, shaped_trips ts, shaped_nil, ?_⟩
    rw [eqv_nil]
    by_cases hts : ts = []
    · subst hts
      refine if_ne (by rfl) ?_
      exact hQ _ _ ⟨0, rfl, by omega, .inl rfl, h12⟩
    · refine if_eq (by cases ts with | nil => exact absurd rfl hts | cons a l => rfl) ?_
      refine ⟨D11, S, _, 3, rfl, h12, by decide, by decide, fun H13 r13 h13 y0 y1 => ?_⟩
      exact hQ _ _ ⟨r13.toNat, congrArg V.int (by omega), by omega, .inr hts, h13⟩
  rintro v H12 ⟨n, rfl, hn2, hnts, h12⟩
  walk_at "rd"
  refine ⟨by omega, by omega, ?_⟩
  rw [Int.toNat_natCast]
  refine loop_f walk_range (fun i σ H' => ∃ (D' : Hp) (kv : List V) (ks : List (Nat × List Nat)) (x8 x9 x10 x11 x12 x15 : Option V), σ = [some (.ref S), some (vN many), some (vN more), some (vN asks), some (.ref p), some (.ref pn), some (.ref p3), some (.ref p4), x8, x9, x10, x11, x12, some (.ref pd), some (.ref q), x15] ∧
      Same D11 D' ∧ Sk D' S ((pk, .lst kv) :: (pd, .dK [(key "places", .ref pp), (key "in", .str (nmAt ns 0)), (key "out", .str (nmAt ns (many - 1))), (key "roads", .ref p4), (key "known", .ref pk)]) :: (p4, .lst rv) :: fr) H' ∧ AtL D' kv (ks.map knD) ∧ ks.length = i ∧
      ∀ k ∈ ks, 1 ≤ k.1 ∧ k.1 ≤ 10 ^ 30 ∧ Path es 0 k.2 (many - 1) ∧ k.2 ≠ [] ∧ k.2.length ≤ 6)
    ⟨D11, [], [], _, _, _, _, _, _, rfl, same_rfl, h12, .nil, rfl, by simp⟩ (fun _ _ _ _ _ => trivial) ?_ ?_
  · rintro i x σ H13 H14 hi ⟨D13, kv, ks, x8, x9, x10, x11, x12, x15, rfl, s13, h13, a13, l13, g13⟩ ⟨rfl, rfl⟩ N hN
    have hts : ts ≠ [] := hnts.resolve_left (by omega)
    walk_at "rd"
    refine ⟨_, DGet.k (k := key "known") (h13.get 1 rfl), .inl ⟨rfl, _, SqL.of (h13.get 0 rfl)⟩, ⟨by decide, by decide, by decide⟩, fun p14 n14 => ?_⟩
    obtain ⟨h14, s14⟩ := h13.new n14 (.lst [.int 1, .int 3, .int 40, .int (10 ^ Int.toNat 30)])
    refine ⟨_, S, _, p14, _, rfl, h14, .inl upd_same, by simp, by simp, fun H15 v15 h15 hv15 => ?_⟩
    have e30 : (10 ^ Int.toNat 30 : Int) = ((10 ^ 30 : Nat) : Int) := by decide +kernel
    have b30 : (1000000 : Nat) ≤ 10 ^ 30 := by decide +kernel
    obtain ⟨tm, t1, t2, rfl⟩ : ∃ tm : Nat, 1 ≤ tm ∧ tm ≤ 10 ^ 30 ∧ v15 = vN tm := by
      simp only [List.mem_cons, List.not_mem_nil, or_false] at hv15
      rcases hv15 with rfl | rfl | rfl | rfl
      · exact ⟨1, Nat.le_refl _, Nat.le_trans (by decide) b30, rfl⟩
      · exact ⟨3, by decide, Nat.le_trans (by decide) b30, rfl⟩
      · exact ⟨40, by decide, Nat.le_trans (by decide) b30, rfl⟩
      · exact ⟨10 ^ 30, Nat.le_trans (by decide) b30, Nat.le_refl _, congrArg V.int e30⟩
    have sq := same_tr s13 s14
    have awl := aw.len
    rw [List.length_map] at awl
    refine ⟨_, S, _, q, _, rfl, h15, .inl (sq _ _ hq), (fun z => by rw [z] at awl; exact hts (List.length_eq_zero_iff.mp awl.symm)), by omega, fun H16 v16 h16 hv16 => ?_⟩
    obtain ⟨j, hj⟩ := List.mem_iff_getElem?.mp hv16
    obtain ⟨tr, htr, hat⟩ := aw.getE hj
    obtain ⟨g1, g2, g3⟩ := tg tr (List.mem_of_getElem? htr)
    intro p17 n17
    obtain ⟨h17, s17⟩ := h16.new n17 (.tup [vN tm, v16])
    have la := a13.len
    rw [List.length_map] at la
    refine ⟨_, rfl, _, h17.get 0 rfl, szl (by omega), hN _ _ ⟨_, _, ks ++ [(tm, tr)], _, _, _, _, _, _, rfl, same_tr sq s17, h17.upd 0 rfl _, ?_, by rw [List.length_append, l13] <;> rfl, ?_⟩⟩
    · rw [List.map_append]
      exact (a13.up (same_tr s14 s17)).snoc (.tup upd_same (.cons (.int _) (.cons ((hat.up sq).up s17) .nil)))
    · intro kk hk
      rcases List.mem_append.mp hk with hk | hk
      · exact g13 kk hk
      · rw [List.mem_singleton.mp hk]
        exact ⟨t1, t2, g1, g2, g3⟩
  rintro σ H13 ⟨D13, kv, ks, x8, x9, x10, x11, x12, x15, rfl, s13, h13, a13, l13, g13⟩
  walk_at "st"
  walk_at "st"
  refine ⟨by omega, by omega, ?_⟩
  have hnet13 := hnet11.up s13
  refine gathO gI (src_range (n := ((asks : Nat) : Int).toNat) (lo := 0)) h13 As.d (fun i bs => bs.length = i ∧ ∀ a ∈ bs, AsOk es a) ⟨rfl, by simp⟩ (fun i bs _ hh => Nat.le_of_eq hh.1) (by rw [List.length_range]; omega) ?_ ?_
  · rintro i x e D14 q14 H14 bs he hx ⟨o1, o2⟩ s14 h14 My Mn myes mno
    walk_at "rd"
    refine ⟨D14, S, _, p, pr, rx, many, es, rfl, h14, hnet13.up s14, hne, by omega, fun D15 H15 v a s15 h15 ha hv => ?_⟩
    refine myes _ _ _ a s15 h15 hv ⟨by rw [List.length_append, o1] <;> rfl, fun b hb => ?_⟩
    rcases List.mem_append.mp hb with hb | hb
    · exact o2 b hb
    · rw [List.mem_singleton.mp hb]
      exact ha
  rintro D14 H14 q14 av as s14 h14 aav ⟨o1, o2⟩
  rw [List.length_range, Int.toNat_natCast] at o1
  obtain ⟨h15, s15⟩ := h14.fix
  walk_at "rd"
  refine ⟨_, DPut.k (k := key "asks") (h15.get 1 rfl) (by rw [sizeLine_eq]; show 5 < 16777216; decide), ?_⟩
  obtain ⟨h16, s16⟩ := h15.fix
  have e16 : HO.dK (putK [(key "places", V.ref pp), (key "in", V.str (nmAt ns 0)), (key "out", V.str (nmAt ns (many - 1))), (key "roads", V.ref p4), (key "known", V.ref pk)] (key "asks") (V.ref q14)) = dealO ⟨pl, nmAt ns 0, nmAt ns (many - 1), rs, ks, as⟩ (.ref pp) (.ref p4) (.ref pk) (.ref q14) := rfl
  have h17 := h16.upd 0 rfl (dealO ⟨pl, nmAt ns 0, nmAt ns (many - 1), rs, ks, as⟩ (.ref pp) (.ref p4) (.ref pk) (.ref q14))
  obtain ⟨h18, s18⟩ := h17.fix
  obtain ⟨h19, s19⟩ := h18.fix
  have z13 := same_tr s14 (same_tr s15 (same_tr s16 (same_tr s18 s19)))
  refine k _ _ pd ⟨pl, nmAt ns 0, nmAt ns (many - 1), rs, ks, as⟩ ns es (same_tr s1 (same_tr t11 (same_tr s13 z13))) h19 ⟨nnm, nnd, nl, m2, m7, hne, hel, hok, hpl, rfl, rfl, l6, fun j e he => g6 j e (List.getElem?_eq_some_iff.mp he).1 he, g13, by show ks.length ≤ 2; omega, o2, by show as.length ≤ 5; omega⟩ ⟨.ref pp, .ref p4, .ref pk, .ref q14, s19 _ _ upd_same, ?_, ?_, ?_, ?_⟩
  · exact .lst (same_tr s11 (same_tr s13 z13) _ _ hpp) (AtL.strs.mpr rfl)
  · exact .lst upd_same (a6.up (same_tr s8 (same_tr s11 (same_tr s13 z13))))
  · exact .lst (s19 _ _ (s18 _ _ upd_same)) (a13.up z13)
  · exact .lst (s19 _ _ (s18 _ _ (s16 _ _ upd_same))) (aav.up (same_tr s15 (same_tr s16 (same_tr s18 s19))))
end
/-! ### text W1 -/
/-! ## the plain law: the order of the places, ways along the edges -/
theorem min_ex {α : Type} (f : α → Nat) : ∀ l : List α, l ≠ [] → ∃ n ∈ l, ∀ m ∈ l, f n ≤ f m
  | [], h => absurd rfl h
  | [a], _ => ⟨a, List.mem_cons_self, fun m hm => by rw [List.mem_singleton.mp hm]; exact Nat.le_refl _⟩
  | a :: b :: l, _ => by
    obtain ⟨n, hn, hmin⟩ := min_ex f (b :: l) (by simp)
    by_cases h : f a ≤ f n
    · refine ⟨a, List.mem_cons_self, fun m hm => ?_⟩
      rcases List.mem_cons.mp hm with rfl | hm
      · exact Nat.le_refl _
      · exact Nat.le_trans h (hmin m hm)
    · refine ⟨n, List.mem_cons_of_mem _ hn, fun m hm => ?_⟩
      rcases List.mem_cons.mp hm with rfl | hm
      · omega
      · exact hmin m hm
theorem free_ne {es : List (Str × Str)} {f : Str → Nat} (h : ∀ e ∈ es, f e.1 < f e.2) {left : List Str} (hl : left ≠ []) : freeO es left ≠ [] := by
  obtain ⟨n, hn, hmin⟩ := min_ex f left hl
  have hm : n ∈ freeO es left := by
    unfold freeO
    refine List.mem_filter.mpr ⟨hn, ?_⟩
    rw [List.isEmpty_iff, List.filter_eq_nil_iff]
    intro e he hc
    rw [Bool.and_eq_true] at hc
    have e2 : e.2 = n := eq_of_beq hc.1
    have e1 : e.1 ∈ left := List.contains_iff_mem.mp hc.2
    have := h e he
    have := hmin _ e1
    rw [e2] at *
    omega
  intro z
  rw [z] at hm
  cases hm
theorem ordGo_perm {es : List (Str × Str)} {P : List Str} (hf : ∀ left : List Str, left ≠ [] → (∀ x ∈ left, x ∈ P) → freeO es left ≠ []) : ∀ (k : Nat) (left found : List Str), left.length = k → (∀ x ∈ left, x ∈ P) → ∃ l, ordGo es k left found = found ++ l ∧ l.Perm left
  | 0, left, found, hl, _ => ⟨[], by simp [ordGo], by rw [List.length_eq_zero_iff.mp hl]⟩
  | k + 1, left, found, hl, hs => by
    cases e : freeO es left with
    | nil => exact absurd e (hf left (by intro z; subst z; simp at hl) hs)
    | cons x r =>
      have hx : x ∈ left := by
        have : x ∈ freeO es left := by rw [e]; exact List.mem_cons_self
        exact (List.mem_filter.mp this).1
      obtain ⟨l, e1, e2⟩ := ordGo_perm hf k (left.erase x) (found ++ [x]) (by rw [List.length_erase_of_mem hx, hl]; rfl) (fun y hy => hs y (List.mem_of_mem_erase hy))
      refine ⟨x :: l, ?_, (List.Perm.cons x e2).trans (List.perm_cons_erase hx).symm⟩
      simp only [ordGo, e]
      rw [e1, List.append_assoc] <;> rfl
theorem order_form {es : List (Str × Str)} {P : List Str} {a b : Str} (hf : ∀ left : List Str, left ≠ [] → (∀ x ∈ left, x ∈ P) → freeO es left ≠ []) (nd : P.Nodup) (ha : a ∈ P) (hb : b ∈ P) (hab : a ≠ b) :
    ∃ l, orderF P a b es = a :: (l ++ [b]) ∧ (orderF P a b es).Perm P := by
  obtain ⟨l, e, hp⟩ := ordGo_perm hf (leftO P a b).length (leftO P a b) [a] rfl (fun x hx => (List.mem_filter.mp hx).1)
  have eo : orderF P a b es = a :: (l ++ [b]) := by
    unfold orderF
    rw [e] <;> rfl
  refine ⟨l, eo, ?_⟩
  rw [eo]
  have mem : ∀ x, x ∈ l ↔ x ∈ P ∧ x ≠ a ∧ x ≠ b := fun x => by
    rw [hp.mem_iff]
    unfold leftO
    rw [List.mem_filter]
    simp
  have ndl : l.Nodup := (hp.nodup_iff).mpr (nd.filter _)
  have nd2 : (a :: (l ++ [b])).Nodup := by
    rw [List.nodup_cons, List.nodup_append]
    refine ⟨?_, ndl, by simp, ?_⟩
    · rw [List.mem_append, List.mem_singleton]
      rintro (h | h)
      · exact ((mem a).mp h).2.1 rfl
      · exact hab h
    · intro x hx y hy z
      rw [List.mem_singleton.mp hy] at z
      exact ((mem x).mp hx).2.2 z
  refine (List.perm_ext_iff_of_nodup nd2 nd).mpr fun x => ?_
  rw [List.mem_cons, List.mem_append, List.mem_singleton, mem]
  constructor
  · rintro (rfl | ⟨h, _⟩ | rfl)
    · exact ha
    · exact h
    · exact hb
  · intro h
    by_cases h1 : x = a
    · exact .inl h1
    · by_cases h2 : x = b
      · exact .inr (.inr h2)
      · exact .inr (.inl ⟨h, h1, h2⟩)
theorem nm_strOk {x : Str} (h : Nm x) : PyData.strOk x = true := by
  obtain ⟨c, cs, e, hc, hcs⟩ := h.first
  unfold PyData.strOk
  rw [← Array.all_toList, e, List.all_eq_true]
  intro b hb
  have lt : (letter b || figure b) = true := by
    rcases List.mem_cons.mp hb with rfl | hb
    · rw [hc]; rfl
    · exact hcs b hb
  unfold letter figure at lt
  simp only [Bool.or_eq_true, Bool.and_eq_true, decide_eq_true_eq] at lt
  exact decide_eq_true (by omega)
/-! ### what follows of a good deal -/
section
variable {d : Deal}
theorem Deal.Ok.free (h : d.Ok) : ∀ left : List Str, left ≠ [] → (∀ x ∈ left, x ∈ d.places) → freeO d.ends left ≠ [] := by
  obtain ⟨f, hf⟩ := h.rank
  intro left hl _
  refine free_ne (f := f) ?_ hl
  intro e he
  obtain ⟨r, hr, rfl⟩ := List.mem_map.mp he
  exact hf r hr
theorem Deal.Ok.ndP (h : d.Ok) : d.places.Nodup := (List.nodup_append.mp h.nd).1
theorem Deal.Ok.ndN (h : d.Ok) : d.names.Nodup := (List.nodup_append.mp h.nd).2.1
theorem Deal.Ok.endsN (h : d.Ok) : d.ends.length ≤ 60 := by
  unfold Deal.ends
  rw [List.length_map]
  exact h.roadsN
theorem Deal.Ok.namesN (h : d.Ok) : d.names.length ≤ 60 := by
  unfold Deal.names
  rw [List.length_map]
  exact h.roadsN
theorem Deal.Ok.ordOk (h : d.Ok) : Bk.OrdOk d.places d.ends :=
  ⟨fun x hx => nm_strOk (h.nms x (List.mem_append_left _ hx)), Nat.le_trans h.few (by decide), Nat.le_trans h.endsN (by decide), h.free⟩
theorem Deal.Ok.order (h : d.Ok) : ∃ l, d.order = d.inn :: (l ++ [d.out]) ∧ d.order.Perm d.places := order_form h.free h.ndP h.inn h.out h.inout
theorem Deal.Ok.idxIn (h : d.Ok) : d.order.idxOf d.inn = 0 := by
  obtain ⟨l, e, _⟩ := h.order
  rw [e, List.idxOf_cons_self]
theorem Deal.Ok.idxOut (h : d.Ok) : d.order.idxOf d.out = d.order.length - 1 ∧ 2 ≤ d.order.length := by
  obtain ⟨l, e, hp⟩ := h.order
  have nd : d.order.Nodup := hp.nodup_iff.mpr h.ndP
  have hl : d.order.length = l.length + 2 := by rw [e]; simp
  have hlt : l.length + 1 < d.order.length := by omega
  have hg : d.order[l.length + 1] = d.out := by
    simp only [e]
    rw [List.getElem_cons_succ, List.getElem_append_right (Nat.le_refl _)]
    simp
  refine ⟨?_, by omega⟩
  have := nd.idxOf_getElem (l.length + 1) hlt
  rw [hg] at this
  omega
theorem Deal.Ok.memO (h : d.Ok) {x : Str} (hx : x ∈ d.places) : x ∈ d.order := by
  obtain ⟨l, e, hp⟩ := h.order
  exact hp.mem_iff.mpr hx
theorem Deal.Ok.lenO (h : d.Ok) : d.order.length = d.places.length := by
  obtain ⟨l, e, hp⟩ := h.order
  exact hp.length_eq
end
/-! ### ways, along other names -/
section
variable {α β : Type} {es : List (α × α)} (f : α → β)
def mapE (f : α → β) (es : List (α × α)) : List (β × β) := es.map fun e => (f e.1, f e.2)
theorem mapE_len : (mapE f es).length = es.length := List.length_map _
theorem mapE_get {i : Nat} {u v : α} (h : es[i]? = some (u, v)) : (mapE f es)[i]? = some (f u, f v) := by
  unfold mapE
  rw [List.getElem?_map, h] <;> rfl
theorem Path.mapE {u v : α} : ∀ {t : List Nat}, Path es u t v → Path (mapE f es) (f u) t (f v) := by
  intro t h
  induction h with
  | nil u => exact .nil _
  | cons h _ ih => exact .cons (mapE_get f h) ih
theorem Str8.mapE {t : List Nat} (h : Str8 es t) : Str8 (mapE f es) t := by
  obtain ⟨h0, u, v, p⟩ := h
  exact ⟨h0, f u, f v, p.mapE f⟩
theorem QuOk.mapE {q : Qu} (h : QuOk es q) : QuOk (mapE f es) q := by
  cases h with
  | along h1 h2 => exact .along (h1.mapE f) h2
  | touch h1 h2 h3 => exact .touch h1 (by rw [mapE_len]; exact h2) h3
  | both h1 h2 => exact .both (by rw [mapE_len]; exact h1) (by rw [mapE_len]; exact h2)
theorem SaOk.mapE {s : Sa} (h : SaOk es s) : SaOk (mapE f es) s := by
  induction h with
  | least h1 h2 => exact .least h1 (h2.mapE f)
  | most h1 h2 => exact .most h1 (h2.mapE f)
  | follow h1 h2 => exact .follow (by rw [mapE_len]; exact h1) (by rw [mapE_len]; exact h2)
  | no _ ih => exact .no ih
theorem AsOk.mapE {a : As} (h : AsOk es a) : AsOk (mapE f es) a := by
  cases h with
  | least h => exact .least (h.mapE f)
  | most h => exact .most (h.mapE f)
  | followers h => exact .followers (by rw [mapE_len]; exact h)
  | sure => exact .sure
  | say h1 h2 => exact .say (h1.mapE f) h2
theorem Path.ltE {u v : α} {t : List Nat} (h : Path es u t v) : ∀ i ∈ t, i < es.length := by
  induction h with
  | nil u => intro i hi; cases hi
  | cons h _ ih =>
    intro i hi
    rcases List.mem_cons.mp hi with rfl | hi
    · exact (List.getElem?_eq_some_iff.mp h).1
    · exact ih i hi
end
/-- the edges by the numbers of the places -/
def Deal.iE (d : Deal) : List (Nat × Nat) := mapE (fun x => d.order.idxOf x) d.ends
/-! ### text P1 -/
/-! ## tokens of a text -/
def cds (x : Str) : List Nat := x.cps.toList
def rowE (S : Nat → Bool) (L : List Nat) (p : Nat) : Nat := p + ((L.drop p).takeWhile S).length
def blank (c : Nat) : Bool := c == 32 || c == 10
def single (c : Nat) : Bool := c == 59 || c == 58 || c == 62 || c == 63
def lefi (c : Nat) : Bool := letter c || figure c
def kindOf (x : Str) : Str := match cds x with
  | c :: _ => if letter c then "word" else if figure c then "number" else "sign"
  | [] => "sign"
/-- at place p begins the token x -/
inductive TokAt (L : List Nat) (p : Nat) : Str → Prop
  | sign {c : Nat} : L[p]? = some c → single c = true → TokAt L p ⟨#[c]⟩
  | word {c : Nat} {x : Str} : L[p]? = some c → letter c = true → cds x = (L.drop p).takeWhile lefi → (x.length ≤ 8 ∨ x ∈ kws) → TokAt L p x
  | number {c : Nat} {x : Str} : L[p]? = some c → figure c = true → cds x = (L.drop p).takeWhile figure → (x = "0" ∨ (c ≠ 48 ∧ x.length ≤ 31)) → TokAt L p x
  | dots : L[p]? = some 46 → L[p + 1]? = some 46 → TokAt L p ".."
inductive Lx (L : List Nat) : Nat → List Str → Prop
  | done {p : Nat} : p ≤ L.length → rowE blank L p = L.length → Lx L p []
  | tok {p : Nat} {x : Str} {rest : List Str} : p ≤ L.length → rowE blank L p < L.length → TokAt L (rowE blank L p) x → Lx L (rowE blank L p + x.length) rest → Lx L p (x :: rest)
theorem rowE_le {S : Nat → Bool} {L : List Nat} {p : Nat} (h : p ≤ L.length) : p ≤ rowE S L p ∧ rowE S L p ≤ L.length := by
  unfold rowE
  have := (List.takeWhile_sublist S (l := L.drop p)).length_le
  rw [List.length_drop] at this
  omega
theorem rowE_go {S : Nat → Bool} {L : List Nat} {p c : Nat} (h : L[p]? = some c) (hs : S c = true) : rowE S L p = rowE S L (p + 1) := by
  obtain ⟨hl, he⟩ := List.getElem?_eq_some_iff.mp h
  unfold rowE
  rw [List.drop_eq_getElem_cons hl, he, List.takeWhile_cons_of_pos hs, List.length_cons]
  omega
theorem rowE_stop {S : Nat → Bool} {L : List Nat} {p c : Nat} (h : L[p]? = some c) (hs : S c = false) : rowE S L p = p := by
  obtain ⟨hl, he⟩ := List.getElem?_eq_some_iff.mp h
  unfold rowE
  rw [List.drop_eq_getElem_cons hl, he, List.takeWhile_cons_of_neg (by simp [hs])] <;> rfl
theorem rowE_end {S : Nat → Bool} {L : List Nat} {p : Nat} (h : L.length ≤ p) : rowE S L p = p := by
  unfold rowE
  rw [List.drop_eq_nil_of_le h] <;> rfl
theorem cutS_mid {z : Str} {p e : Nat} (h1 : p ≤ e) (h2 : e ≤ (cds z).length) : cds (cutS z (some (p : Int)) (some (e : Int))) = ((cds z).drop p).take (e - p) := by
  have hl : z.length = (cds z).length := TL.len_tl z
  show ((z.cps.toList.drop (HT.sIx z.length 0 (some (p : Int)))).take (HT.sIx z.length z.length (some (e : Int)) - HT.sIx z.length 0 (some (p : Int)))) = _
  rw [HT.sIx_nat, HT.sIx_nat, hl, Nat.min_eq_left h2, Nat.min_eq_left (show p ≤ _ by omega)] <;> rfl
theorem cutS_row {z x : Str} {S : Nat → Bool} {p : Nat} (hp : p ≤ (cds z).length) (hx : cds x = ((cds z).drop p).takeWhile S) : cutS z (some (p : Int)) (some (rowE S (cds z) p : Int)) = x := by
  obtain ⟨h1, h2⟩ := rowE_le (S := S) hp
  refine TL.ext_tl ?_
  show cds _ = cds x
  rw [cutS_mid h1 h2, hx]
  unfold rowE
  rw [Nat.add_sub_cancel_left]
  exact (List.prefix_iff_eq_take.mp (List.takeWhile_prefix S)).symm
def spRowEnd : Sp := fun vs H Q _ => ∃ (z g : Str) (p : Nat) (S : Nat → Bool), vs = [.str z, .int (p : Int), .str g] ∧ p ≤ (cds z).length ∧ z.length ≤ 9000000 ∧ (∀ c, decide (c ∈ g.cps.toList) = S c) ∧ Q (.int (rowE S (cds z) p : Nat)) H
def spIsWord : Sp := fun vs H Q _ => ∃ x : Str, vs = [.str x] ∧ x.length ≤ 9000000 ∧ Q (.bl (decide (x.length ≤ 8) || decide (x ∈ kws))) H
def spIsNumber : Sp := fun vs H Q _ => ∃ (x : Str) (c : Nat), vs = [.str x] ∧ (cds x).head? = some c ∧ x.length ≤ 9000000 ∧ Q (.bl (decide (x = "0") || (!decide (c = 48) && decide (x.length ≤ 31)))) H
section
variable {P : Program} {w : World} {K : PySem.W.Frag} {mg : Str → Option Value} {base : Heap}
theorem sc_row_end : FnScope ["value", "place", "signs"] ["value", "place", "signs"] (defScope s_row_end) := ⟨rfl, rfl, rfl, by decide +kernel, rfl, by decide +kernel, by decide +kernel⟩
theorem c_row_end (T : Txt K mg) : C8.Cal P w K mg base 1 "row_end" spRowEnd [] := by
  refine cal_mk T.d_row_end sc_row_end (fun _ _ _ _ _ _ us hl => match us, hl with | [_, _, _], _ => rfl) (fun vs H Q E h => ?_) (fun f cdv A outer s H vs Q E hr h => ?_)
  · obtain ⟨z, g, p, S, rfl, _⟩ := h
    rfl
  obtain ⟨z, g, p, S, rfl, hp, hz, hS, k⟩ := h
  refine ⟨_, (pss_cons (ps_while PassesOwn.never (PW.pt (pw_and (pt_cmpR op_lt (pv 1) (pe_callB call_len_str (by rfl) T.b_len PySem.boot_len (pa_cons (pv 0) pa_nil)) (nomark _)) (pw_and1 (pt_cmpR op_in_sign (pe_ix ix_str (pv 0) (pv 1) (fun _ _ => rfl)) (pv 2) (by rfl))))) (pss_one (ps_set (i := 1) sc_row_end.nd rfl (Or.inl rfl) (pe_op op_add (pv 1) pe_int)))) (pss_one (ps_ret (pv 1)))), ?_⟩
  show tSeq _ _ _ [some (.str z), some (.int (p : Int)), some (.str g)] H
  have hzl : z.length = (cds z).length := TL.len_tl z
  rw [u_seq]
  refine loop_w (fun m σ H' => ∃ q : Nat, σ = [some (.str z), some (.int (q : Int)), some (.str g)] ∧ H' = H ∧ q ≤ (cds z).length ∧ m = (cds z).length - q ∧ rowE S (cds z) q = rowE S (cds z) p) _ ⟨p, rfl, rfl, hp, rfl, rfl⟩ ?_
  rintro m σ H2 ⟨q, rfl, rfl, hq, rfl, he⟩
  walk_at "rd"
  have hsm : z.length ≤ sizeLine := by rw [sizeLine_eq]; omega
  have fin : rowE S (cds z) q = q → Q (.int (q : Int)) H2 := fun e => by
    rw [← e, he]
    exact k
  refine ⟨hsm, ite2 (fun hlt => ?_) (fun hlt => ?_)⟩
  · obtain ⟨c, hc⟩ : ∃ c, (cds z)[q]? = some c := ⟨_, List.getElem?_eq_getElem (by omega)⟩
    refine ⟨hsm, c, atI_of rfl hc, c, rfl, ite2 (fun hg => ?_) (fun hg => ?_)⟩
    · have hSc : S c = true := by rw [← hS]; exact decide_eq_true hg
      refine stepW fun N hN => ?_
      walk_at "rd"
      refine hN _ _ _ (show (cds z).length - (q + 1) < (cds z).length - q by omega) ⟨q + 1, ?_, rfl, by omega, rfl, ?_⟩
      · rw [show ((q : Int) + 1) = ((q + 1 : Nat) : Int) from rfl]
      · rw [← he, rowE_go hc hSc]
    · have hSc : S c = false := by rw [← hS]; exact decide_eq_false hg
      exact fin (rowE_stop hc hSc)
  · exact fin (rowE_end (by omega))
theorem sc_is_word : FnScope ["text"] ["text"] (defScope s_is_word) := ⟨rfl, rfl, rfl, by decide +kernel, rfl, by decide +kernel, by decide +kernel⟩
theorem c_is_word (T : Txt K mg) : C8.Cal P w K mg base 1 "is_word" spIsWord [] := by
  refine cal_mk T.d_is_word sc_is_word (fun _ _ _ _ _ _ us hl => match us, hl with | [_], _ => rfl) (fun vs H Q E h => ?_) (fun f cdv A outer s H vs Q E hr h => ?_)
  · obtain ⟨x, rfl, _⟩ := h
    rfl
  obtain ⟨x, rfl, hx, k⟩ := h
  refine ⟨_, (pss_one (ps_ret (pe_or (pe_cmpR op_le (pe_callB call_len_str (by rfl) T.b_len PySem.boot_len (pa_cons (pv 0) pa_nil)) (C8.pe_gc rfl T.g_MOST_SIGNS) (nomark _)) (pe_one (pe_cmpR op_in_seq (pv 0) (C8.pe_gc rfl T.g_KEYWORDS) (by rfl)))))), ?_⟩
  show tRet _ _ [some (.str x)] H
  walk_at "rd"
  refine ⟨by rw [sizeLine_eq]; omega, ite2 (fun hlt => ?_) (fun hlt => ?_)⟩
  · rw [decT (show x.length ≤ 8 by omega)] at k
    exact k
  · rw [decF (show ¬ x.length ≤ 8 by omega), Bool.false_or] at k
    refine ⟨_, .inr (T.kwT H), flat_strs _, ?_⟩
    rw [inV_strs]
    exact k
theorem sc_is_number : FnScope ["text"] ["text"] (defScope s_is_number) := ⟨rfl, rfl, rfl, by decide +kernel, rfl, by decide +kernel, by decide +kernel⟩
theorem c_is_number (T : Txt K mg) : C8.Cal P w K mg base 1 "is_number" spIsNumber [] := by
  refine cal_mk T.d_is_number sc_is_number (fun _ _ _ _ _ _ us hl => match us, hl with | [_], _ => rfl) (fun vs H Q E h => ?_) (fun f cdv A outer s H vs Q E hr h => ?_)
  · obtain ⟨x, c, rfl, _⟩ := h
    rfl
  obtain ⟨x, c, rfl, hc, hx, k⟩ := h
  refine ⟨_, (pss_one (ps_ret (pe_or (pe_cmpR op_eq (pv 0) pe_str (nomark _)) (pe_one (pe_and (pe_cmpR op_ne (pe_ix ix_str (pv 0) pe_int (fun _ _ => rfl)) pe_str (nomark _)) (pe_one (pe_cmpR op_le (pe_callB call_len_str (by rfl) T.b_len PySem.boot_len (pa_cons (pv 0) pa_nil)) (C8.pe_gc rfl T.g_MOST_FIGURES) (nomark _)))))))), ?_⟩
  show tRet _ _ [some (.str x)] H
  walk_at "rd"
  have hsm : x.length ≤ sizeLine := by rw [sizeLine_eq]; omega
  refine ite2 (fun h0 => ?_) (fun h0 => ?_)
  · rw [decT h0] at k
    exact k
  · rw [decF h0, Bool.false_or] at k
    refine ⟨hsm, c, atI_head hc, ite2 (fun h1 => ?_) (fun h1 => ?_)⟩
    · have hc48 : c = 48 := by
        have e : (⟨#[c]⟩ : Str) = ⟨#[48]⟩ := h1.trans (by decide +kernel)
        cases e
        rfl
      rw [decT hc48] at k
      exact k
    · have hc48 : ¬ c = 48 := fun e => h1 (by rw [e]; decide +kernel)
      rw [decF hc48] at k
      refine ⟨hsm, ?_⟩
      rw [show decide ((x.length : Int) ≤ 31) = decide (x.length ≤ 31) from decide_eq_decide.mpr (by omega)]
      exact k
end
/-! ### text P2 -/
theorem single_in (c : Nat) : decide (c ∈ (Str.ofString ";:>?").cps.toList) = single c := by
  rw [show (Str.ofString ";:>?").cps.toList = [59, 58, 62, 63] by decide +kernel]
  unfold single
  simp only [List.mem_cons, List.not_mem_nil, or_false, Bool.decide_or]
  rw [Bool.or_assoc, Bool.or_assoc]
  rfl
theorem figure_in (c : Nat) : decide (c ∈ (Str.ofString "0123456789").cps.toList) = figure c := by
  rw [show (Str.ofString "0123456789").cps.toList = [48, 49, 50, 51, 52, 53, 54, 55, 56, 57] by decide +kernel]
  unfold figure
  rw [← Bool.decide_and]
  refine decide_eq_decide.mpr ?_
  simp only [List.mem_cons, List.not_mem_nil, or_false]
  omega
theorem letter_in (c : Nat) : decide (c ∈ (Str.ofString "abcdefghijklmnopqrstuvwxyz").cps.toList) = letter c := by
  rw [show (Str.ofString "abcdefghijklmnopqrstuvwxyz").cps.toList = [97, 98, 99, 100, 101, 102, 103, 104, 105, 106, 107, 108, 109, 110, 111, 112, 113, 114, 115, 116, 117, 118, 119, 120, 121, 122] by decide +kernel]
  unfold letter
  rw [← Bool.decide_and]
  refine decide_eq_decide.mpr ?_
  simp only [List.mem_cons, List.not_mem_nil, or_false]
  omega
theorem lefi_in (c : Nat) : decide (c ∈ (Str.ofString "abcdefghijklmnopqrstuvwxyz" ++ Str.ofString "0123456789").cps.toList) = lefi c := by
  have e : (Str.ofString "abcdefghijklmnopqrstuvwxyz" ++ Str.ofString "0123456789").cps.toList = (Str.ofString "abcdefghijklmnopqrstuvwxyz").cps.toList ++ (Str.ofString "0123456789").cps.toList := TL.tl_append _ _
  rw [e]
  unfold lefi
  rw [← letter_in, ← figure_in, ← Bool.decide_or]
  exact decide_eq_decide.mpr List.mem_append
theorem blank_in (c : Nat) : decide (c ∈ (Str.ofString " \n").cps.toList) = blank c := by
  rw [show (Str.ofString " \n").cps.toList = [32, 10] by decide +kernel]
  unfold blank
  simp only [List.mem_cons, List.not_mem_nil, or_false, Bool.decide_or]
  rfl
theorem mem_of {c : Nat} {x : Str} {b : Bool} (h : decide (c ∈ x.cps.toList) = b) : (c ∈ x.cps.toList) ↔ b = true := by
  rw [← h, decide_eq_true_iff]
theorem take_row {S : Nat → Bool} {L : List Nat} {q c : Nat} (h : L[q]? = some c) (hs : S c = true) : ∃ r, (L.drop q).takeWhile S = c :: r := by
  obtain ⟨hl, he⟩ := List.getElem?_eq_some_iff.mp h
  rw [List.drop_eq_getElem_cons hl, he, List.takeWhile_cons_of_pos hs]
  exact ⟨_, rfl⟩
def tokD (x : Str) (q : Nat) : PyData := .tuple [.str (kindOf x), .str x, iN q]
def spTokenAt : Sp := fun vs H Q _ => ∃ (I : Hp → List (Addr × HO) → Hp → Prop) (D : Hp) (fr : List (Addr × HO)) (z x : Str) (q : Nat), Ground I ∧ vs = [.str z, .int (q : Int)] ∧ I D fr H ∧ TokAt (cds z) q x ∧ z.length ≤ 9000000 ∧
  ∀ (D' H' : Hp) (v : V), Same D D' → I D' fr H' → At D' v (tokD x q) → Q v H'
def spTokenFrom : Sp := fun vs H Q _ => ∃ (I : Hp → List (Addr × HO) → Hp → Prop) (D : Hp) (fr : List (Addr × HO)) (z : Str) (p : Nat) (ts : List Str), Ground I ∧ vs = [.str z, .int (p : Int)] ∧ I D fr H ∧ Lx (cds z) p ts ∧ z.length ≤ 9000000 ∧
  (ts = [] → Q .non H) ∧ ∀ (D' H' : Hp) (v : V) (x : Str) (rest : List Str) (q : Nat), ts = x :: rest → Same D D' → I D' fr H' → At D' v (tokD x q) → Lx (cds z) (q + x.length) rest → Q v H'
section
variable {P : Program} {w : World} {K : PySem.W.Frag} {mg : Str → Option Value} {base : Heap}
theorem sc_token_at : FnScope ["value", "place", "sign", "text"] ["value", "place"] (defScope s_token_at) := ⟨rfl, rfl, rfl, by decide +kernel, rfl, by decide +kernel, by decide +kernel⟩
theorem c_token_at (T : Txt K mg) : C8.Cal P w K mg base 2 "token_at" spTokenAt [] := by
  have h_row_end : C8.Cal P w K mg base 1 "row_end" spRowEnd [] := c_row_end T
  have h_is_word : C8.Cal P w K mg base 1 "is_word" spIsWord [] := c_is_word T
  have h_is_number : C8.Cal P w K mg base 1 "is_number" spIsNumber [] := c_is_number T
  refine cal_mk T.d_token_at sc_token_at (fun _ _ _ _ _ _ us hl => match us, hl with | [_, _], _ => rfl) (fun vs H Q E h => ?_) (fun f cdv A outer s H vs Q E hr h => ?_)
  · obtain ⟨I, D, fr, z, x, q, gI, rfl, _⟩ := h
    rfl
  obtain ⟨I, D, fr, z, x, q, gI, rfl, h, ht, hz, k⟩ := h
  refine ⟨_, (pss_cons (ps_set (i := 2) sc_token_at.nd rfl (Or.inl rfl) (pe_ix ix_str (pv 0) (pv 1) (fun _ _ => rfl))) (pss_cons (ps_if (pt_cmpR op_in_sign (pv 2) (C8.pe_gc rfl T.g_SINGLE) (by rfl)) (pss_one (ps_ret (pe_tup (pa_cons pe_str (pa_cons (pv 2) (pa_cons (pv 1) pa_nil)))))) pss_nil) (pss_cons (ps_if (pt_cmpR op_in_sign (pv 2) (C8.pe_gc rfl T.g_LETTERS) (by rfl)) (pss_cons (ps_set (i := 3) sc_token_at.nd rfl (Or.inl rfl) (pe_slice sl_str (pv 0) (po_some (pv 1)) (po_some (C8.pe_c h_row_end hr (by decide) rfl (pa_cons (pv 0) (pa_cons (pv 1) (pa_cons (pe_op op_add_str (C8.pe_gc rfl T.g_LETTERS) (C8.pe_gc rfl T.g_FIGURES)) pa_nil))))))) (pss_one (ps_if (pt_val (C8.pe_c h_is_word hr (by decide) rfl (pa_cons (pv 3) pa_nil))) (pss_one (ps_ret (pe_tup (pa_cons pe_str (pa_cons (pv 3) (pa_cons (pv 1) pa_nil)))))) pss_nil))) (pss_one (ps_if (pt_cmpR op_in_sign (pv 2) (C8.pe_gc rfl T.g_FIGURES) (by rfl)) (pss_cons (ps_set (i := 3) sc_token_at.nd rfl (Or.inl rfl) (pe_slice sl_str (pv 0) (po_some (pv 1)) (po_some (C8.pe_c h_row_end hr (by decide) rfl (pa_cons (pv 0) (pa_cons (pv 1) (pa_cons (C8.pe_gc rfl T.g_FIGURES) pa_nil))))))) (pss_one (ps_if (pt_val (C8.pe_c h_is_number hr (by decide) rfl (pa_cons (pv 3) pa_nil))) (pss_one (ps_ret (pe_tup (pa_cons pe_str (pa_cons (pv 3) (pa_cons (pv 1) pa_nil)))))) pss_nil))) (pss_one (ps_if (pt_cmpR op_eq (pe_slice sl_str (pv 0) (po_some (pv 1)) (po_some (pe_op op_add (pv 1) pe_int))) pe_str (nomark _)) (pss_one (ps_ret (pe_tup (pa_cons pe_str (pa_cons pe_str (pa_cons (pv 1) pa_nil)))))) pss_nil))))) (pss_one ps_never)))), ?_⟩
  show tSeq _ _ _ [some (.str z), some (.int (q : Int)), none, none] H
  have hsm : z.length ≤ sizeLine := by rw [sizeLine_eq]; omega
  obtain ⟨c, hc⟩ : ∃ c, (cds z)[q]? = some c := by cases ht <;> exact ⟨_, by assumption⟩
  have hq := (List.getElem?_eq_some_iff.mp hc).1
  have hzl : z.length = (cds z).length := TL.len_tl z
  have fin : ∀ wd : Str, wd = kindOf x → ∀ p, H p = none → Q (.ref p) (upd H p (.tup [.str wd, .str x, .int (q : Int)])) := fun wd hwd p np => by
    obtain ⟨h1, s1⟩ := gI.new (.tup [.str wd, .str x, .int (q : Int)]) h np
    subst hwd
    exact k _ _ _ s1 h1 (.tup upd_same (.cons (.str _) (.cons (.str _) (.cons (.int _) .nil))))
  walk_at "st"
  refine ⟨hsm, c, atI_of rfl hc, ?_⟩
  have mS := mem_of (single_in c)
  have mL := mem_of (letter_in c)
  have mF := mem_of (figure_in c)
  walk_at "st"
  refine ⟨c, rfl, ?_⟩
  cases ht with
  | @sign c' h1 h2 =>
    rw [hc] at h1
    cases h1
    rw [if_pos (mS.mpr h2)]
    refine fin "sign" ?_
    have hl : letter c = false := by
      unfold single at h2
      unfold letter
      simp at h2 ⊢
      omega
    have hf : figure c = false := by
      unfold single at h2
      unfold figure
      simp at h2 ⊢
      omega
    show _ = (if letter c = true then _ else if figure c = true then _ else _)
    rw [hl, hf] <;> rfl
  | @word c' x h1 h2 h3 h4 =>
    rw [hc] at h1
    cases h1
    have hs : ¬ single c = true := by
      unfold letter at h2
      unfold single
      simp at h2 ⊢
      omega
    rw [if_neg (fun z => hs (mS.mp z))]
    obtain ⟨r, hr⟩ := take_row (S := lefi) hc (by unfold lefi; rw [h2] <;> rfl)
    have hk : kindOf x = "word" := by
      unfold kindOf
      rw [h3, hr]
      show (if letter c = true then _ else _) = _
      rw [if_pos h2]
    have hxl : x.length ≤ 9000000 := by
      have := (List.takeWhile_sublist lefi (l := (cds z).drop q)).length_le
      rw [← h3, List.length_drop] at this
      have e : x.length = (cds x).length := TL.len_tl x
      omega
    walk_at "st"
    refine ⟨c, rfl, ?_⟩
    rw [if_pos (mL.mpr h2)]
    walk_at "st"
    refine ⟨by decide +kernel, ?_⟩
    refine ⟨z, _, q, lefi, rfl, by omega, hz, lefi_in, ?_⟩
    walk_at "rd"
    refine ⟨hsm, ?_⟩
    rw [cutS_row (by omega) h3]
    walk_at "st"
    refine ⟨x, rfl, hxl, ?_⟩
    have hb : (decide (x.length ≤ 8) || decide (x ∈ kws)) = true := by simpa using h4
    rw [hb]
    walk_at "rd"
    exact fin "word" hk.symm
  | @number c' x h1 h2 h3 h4 =>
    rw [hc] at h1
    cases h1
    have hs : ¬ single c = true := by
      unfold figure at h2
      unfold single
      simp at h2 ⊢
      omega
    have hl : ¬ letter c = true := by
      unfold figure at h2
      unfold letter
      simp at h2 ⊢
      omega
    rw [if_neg (fun z => hs (mS.mp z))]
    obtain ⟨r, hr⟩ := take_row (S := figure) hc h2
    have hk : kindOf x = "number" := by
      unfold kindOf
      rw [h3, hr]
      show (if letter c = true then _ else if figure c = true then _ else _) = _
      rw [if_neg hl, if_pos h2]
    have hxl : x.length ≤ 9000000 := by
      have := (List.takeWhile_sublist figure (l := (cds z).drop q)).length_le
      rw [← h3, List.length_drop] at this
      have e : x.length = (cds x).length := TL.len_tl x
      omega
    walk_at "st"
    refine ⟨c, rfl, ?_⟩
    rw [if_neg (fun z => hl (mL.mp z))]
    walk_at "st"
    refine ⟨c, rfl, ?_⟩
    rw [if_pos (mF.mpr h2)]
    walk_at "st"
    refine ⟨z, _, q, figure, rfl, by omega, hz, figure_in, ?_⟩
    walk_at "rd"
    refine ⟨hsm, ?_⟩
    rw [cutS_row (by omega) h3]
    walk_at "st"
    refine ⟨x, c, rfl, by rw [h3, hr] <;> rfl, hxl, ?_⟩
    have hb : (decide (x = "0") || (!decide (c = 48) && decide (x.length ≤ 31))) = true := by simpa using h4
    rw [hb]
    walk_at "rd"
    exact fin "number" hk.symm
  | dots h1 h2 =>
    rw [hc] at h1
    cases h1
    rw [if_neg (fun z => absurd (mS.mp z) (by decide))]
    walk_at "st"
    refine ⟨46, rfl, ?_⟩
    rw [if_neg (fun z => absurd (mL.mp z) (by decide))]
    walk_at "st"
    refine ⟨46, rfl, ?_⟩
    rw [if_neg (fun z => absurd (mF.mp z) (by decide))]
    walk_at "st"
    obtain ⟨l1, e1⟩ := List.getElem?_eq_some_iff.mp hc
    obtain ⟨l2, e2⟩ := List.getElem?_eq_some_iff.mp h2
    have hcut : cutS z (some (q : Int)) (some ((q : Int) + 2)) = ".." := by
      refine TL.ext_tl ?_
      show cds (cutS z (some (q : Int)) (some ((q + 2 : Nat) : Int))) = cds ".."
      rw [cutS_mid (by omega) (by omega), Nat.add_sub_cancel_left, List.drop_eq_getElem_cons l1, List.drop_eq_getElem_cons l2, e1, e2, show cds ".." = [46, 46] by decide +kernel] <;> rfl
    refine ⟨hsm, ?_⟩
    rw [if_pos hcut]
    exact fin "sign" (by decide +kernel)
theorem sc_token_from : FnScope ["value", "place", "begin"] ["value", "place"] (defScope s_token_from) := ⟨rfl, rfl, rfl, by decide +kernel, rfl, by decide +kernel, by decide +kernel⟩
theorem c_token_from (T : Txt K mg) : C8.Cal P w K mg base 3 "token_from" spTokenFrom [] := by
  have h_row_end : C8.Cal P w K mg base 1 "row_end" spRowEnd [] := c_row_end T
  have h_token_at : C8.Cal P w K mg base 2 "token_at" spTokenAt [] := c_token_at T
  refine cal_mk T.d_token_from sc_token_from (fun _ _ _ _ _ _ us hl => match us, hl with | [_, _], _ => rfl) (fun vs H Q E h => ?_) (fun f cdv A outer s H vs Q E hr h => ?_)
  · obtain ⟨I, D, fr, z, p, ts, gI, rfl, _⟩ := h
    rfl
  obtain ⟨I, D, fr, z, p, ts, gI, rfl, h, ht, hz, k1, k2⟩ := h
  refine ⟨_, (pss_cons (ps_set (i := 2) sc_token_from.nd rfl (Or.inl rfl) (C8.pe_c h_row_end hr (by decide) rfl (pa_cons (pv 0) (pa_cons (pv 1) (pa_cons pe_str pa_nil))))) (pss_one (ps_ret (pe_ifExp (pt_cmpR op_eq (pv 2) (pe_callB call_len_str (by rfl) T.b_len PySem.boot_len (pa_cons (pv 0) pa_nil)) (nomark _)) pe_non (C8.pe_c h_token_at hr (by decide) rfl (pa_cons (pv 0) (pa_cons (pv 2) pa_nil))))))), ?_⟩
  show tSeq _ _ _ [some (.str z), some (.int (p : Int)), none] H
  have hp : p ≤ (cds z).length := by cases ht <;> assumption
  have hzl : z.length = (cds z).length := TL.len_tl z
  walk_at "st"
  refine ⟨z, _, p, blank, rfl, hp, hz, blank_in, ?_⟩
  walk_at "st"
  walk_at "st"
  refine ⟨by rw [sizeLine_eq]; omega, ?_⟩
  cases ht with
  | done h1 h2 =>
    rw [if_pos (by omega)]
    exact k1 rfl
  | tok h1 h2 h3 h4 =>
    rw [if_neg (by omega)]
    exact ⟨I, D, fr, z, _, _, gI, rfl, h, h3, hz, fun D' H' v s' h' hv => k2 _ _ _ _ _ _ rfl s' h' hv h4⟩
end
/-! ### text P3 -/
/-! ## the tokens that are left -/
def tkO (K : PySem.W.Frag) (dx : Addr) (z : Str) (p : Nat) (t : V) : HO := .ins (He.ga K "Tokens") dx [("value", .str z), ("place", .int (p : Int)), ("token", t)]
def TkAt (K : PySem.W.Frag) (D : Hp) (o : HO) (ts : List Str) : Prop := ∃ (dx : Addr) (z : Str) (p : Nat) (t : V), o = tkO K dx z p t ∧ z.length ≤ 9000000 ∧
  ((t = .non ∧ Lx (cds z) p ts) ∨ ∃ (x : Str) (rest : List Str) (q : Nat) (a : Addr), ts = x :: rest ∧ t = .ref a ∧ At D (.ref a) (tokD x q) ∧ Lx (cds z) (q + x.length) rest)
theorem TkAt.up {K : PySem.W.Frag} {D D' : Hp} {o : HO} {ts : List Str} (h : TkAt K D o ts) (s : Same D D') : TkAt K D' o ts := by
  obtain ⟨dx, z, p, t, e, hz, h⟩ := h
  refine ⟨dx, z, p, t, e, hz, ?_⟩
  rcases h with h | ⟨x, rest, q, a, e1, e2, hat, hl⟩
  · exact .inl h
  · exact .inr ⟨x, rest, q, a, e1, e2, hat.up s, hl⟩
/-- at the place j of what may change stand the tokens T, ts left -/
def TKs (I : Hp → List (Addr × HO) → Hp → Prop) (K : PySem.W.Frag) (D : Hp) (fr : List (Addr × HO)) (j : Nat) (T : Addr) (H : Hp) (ts : List Str) : Prop := ∃ o, j < fr.length ∧ I D (fr.set j (T, o)) H ∧ TkAt K D o ts
section
variable {I : Hp → List (Addr × HO) → Hp → Prop} {K : PySem.W.Frag} {D H : Hp} {fr : List (Addr × HO)} {j : Nat} {T p : Addr} {ts : List Str} {o : HO}
theorem TKs.tmp (gI : Ground I) (h : TKs I K D fr j T H ts) (hp : H p = none) (o : HO) : TKs I K D fr j T (upd H p o) ts := by
  obtain ⟨o1, hj, hI, ht⟩ := h
  exact ⟨o1, hj, gI.tmp o hI hp, ht⟩
theorem TKs.new (gI : Ground I) (h : TKs I K D fr j T H ts) (hp : H p = none) (o : HO) : TKs I K (upd D p o) fr j T (upd H p o) ts ∧ Same D (upd D p o) := by
  obtain ⟨o1, hj, hI, ht⟩ := h
  obtain ⟨h2, s2⟩ := gI.new o hI hp
  exact ⟨⟨o1, hj, h2, ht.up s2⟩, s2⟩
theorem TKs.same (gI : Ground I) (h : TKs I K D fr j T H ts) : Same D H := by
  obtain ⟨o1, hj, hI, ht⟩ := h
  exact gI.same hI
theorem TKs.get (gI : Ground I) (h : TKs I K D fr j T H ts) : ∃ dx z p t, H T = some (tkO K dx z p t) := by
  obtain ⟨o1, hj, hI, dx, z, p, t, rfl, _⟩ := h
  exact ⟨dx, z, p, t, gI.get j hI (List.getElem?_set_self hj)⟩
theorem TKs.put (gI : Ground I) (h : TKs I K D fr j T H ts) (hp : H p = none) (o : HO) : TKs I K D ((p, o) :: fr) (j + 1) T (L2.upd H p o) ts := by
  obtain ⟨o1, hj, hI, ht⟩ := h
  exact ⟨o1, Nat.succ_lt_succ hj, gI.put o hI hp, ht⟩
end
theorem Lx.room {z x : Str} {q : Nat} {rest : List Str} (h : Lx (cds z) (q + x.length) rest) : x.length ≤ z.length := by
  have e : z.length = (cds z).length := TL.len_tl z
  cases h <;> omega
def spLook (K : PySem.W.Frag) : Sp := fun vs H Q _ => ∃ (I : Hp → List (Addr × HO) → Hp → Prop) (D : Hp) (fr : List (Addr × HO)) (j : Nat) (T : Addr) (ts : List Str), Ground I ∧ vs = [.ref T] ∧ TKs I K D fr j T H ts ∧
  (∀ H', ts = [] → TKs I K D fr j T H' ts → Q .non H') ∧ ∀ (D' H' : Hp) (a : Addr) (x : Str) (rest : List Str) (q : Nat), ts = x :: rest → Same D D' → TKs I K D' fr j T H' ts → D' a = some (.tup [.str (kindOf x), .str x, vN q]) → (∃ dx z p, H' T = some (tkO K dx z p (.ref a)) ∧ x.length ≤ z.length ∧ Lx (cds z) (q + x.length) rest) → Q (.ref a) H'
theorem tokD_at {D : Hp} {v : V} {x : Str} {q : Nat} (h : At D v (tokD x q)) : ∃ a, v = .ref a ∧ D a = some (.tup [.str (kindOf x), .str x, vN q]) := by
  obtain ⟨a, xs, rfl, ha, hx⟩ := h.tup_is
  cases hx with
  | cons h1 t =>
  cases t with
  | cons h2 t =>
  cases t with
  | cons h3 t =>
  cases t
  rw [h1.str_is, h2.str_is, h3.int_is] at ha
  exact ⟨a, rfl, ha⟩
section
variable {P : Program} {w : World} {K : PySem.W.Frag} {mg : Str → Option Value} {base : Heap}
theorem sc_Tokens_look : FnScope ["self"] ["self"] (defScope s_Tokens_look) := ⟨rfl, rfl, rfl, by decide +kernel, rfl, by decide +kernel, by decide +kernel⟩
theorem c_Tokens_look (T : Txt K mg) : C8.Met P w K mg base 4 (He.ga K "Tokens") "look" (spLook K) [] := by
  have h_token_from : C8.Cal P w K mg base 3 "token_from" spTokenFrom [] := c_token_from T
  refine met_mk T.m_Tokens_look T.c_Tokens sc_Tokens_look (fun _ _ _ _ _ _ us hl => match us, hl with | [_], _ => rfl) (fun vs H Q E h => ?_) (fun f cdv A outer s H vs Q E hr h => ?_)
  · obtain ⟨I, D, fr, j, Tk, ts, gI, rfl, _⟩ := h
    rfl
  obtain ⟨I, D, fr, j, Tk, ts, gI, rfl, ⟨o, hj, hI, dx, z, p, t, rfl, hz, ht⟩, k1, k2⟩ := h
  refine ⟨_, (pss_cons (ps_if (pt_cmpR op_isN (pe_fld (pv 0) rfl) pe_non (nomark _)) (pss_one (ps_fld (pv 0) (C8.pe_c h_token_from hr (by decide) rfl (pa_cons (pe_fld (pv 0) rfl) (pa_cons (pe_fld (pv 0) rfl) pa_nil))) rfl)) pss_nil) (pss_one (ps_ret (pe_fld (pv 0) rfl)))), ?_⟩
  show tSeq _ _ _ [some (.ref Tk)] H
  have e0 := gI.get j hI (List.getElem?_set_self hj)
  walk_at "st"
  refine ⟨_, _, _, e0, T.c_Tokens, T.n_Tokens_token, _, rfl, ?_⟩
  rcases ht with ⟨rfl, hl⟩ | ⟨x, rest, q, a, rfl, rfl, hat, hl⟩
  · rw [if_pos rfl]
    refine ⟨_, _, _, e0, T.c_Tokens, T.n_Tokens_value, _, rfl, _, _, _, e0, T.c_Tokens, T.n_Tokens_place, _, rfl, ?_⟩
    refine ⟨I, D, _, z, p, ts, gI, rfl, hI, hl, hz, fun hts => ?_, fun D1 H1 v x rest q hts s1 h1 hv hl2 => ?_⟩
    · refine ⟨_, _, _, e0, T.c_Tokens, T.n_Tokens_token, by show 3 < 1000; decide, ?_⟩
      have h2 := gI.upd j (tkO K dx z p .non) hI (List.getElem?_set_self hj)
      rw [List.set_set] at h2
      have e2 := gI.get j h2 (List.getElem?_set_self hj)
      walk_at "st"
      refine ⟨_, _, _, e2, T.c_Tokens, T.n_Tokens_token, _, rfl, ?_⟩
      exact k1 _ hts ⟨_, hj, h2, dx, z, p, _, rfl, hz, .inl ⟨rfl, hl⟩⟩
    · subst hts
      obtain ⟨a, rfl, ha⟩ := tokD_at hv
      have e1 := gI.get j h1 (List.getElem?_set_self hj)
      refine ⟨_, _, _, e1, T.c_Tokens, T.n_Tokens_token, by show 3 < 1000; decide, ?_⟩
      have h2 := gI.upd j (tkO K dx z p (.ref a)) h1 (List.getElem?_set_self hj)
      rw [List.set_set] at h2
      have e2 := gI.get j h2 (List.getElem?_set_self hj)
      walk_at "st"
      refine ⟨_, _, _, e2, T.c_Tokens, T.n_Tokens_token, _, rfl, ?_⟩
      exact k2 _ _ a x rest q rfl s1 ⟨_, hj, h2, dx, z, p, _, rfl, hz, .inr ⟨x, rest, q, a, rfl, rfl, hv, hl2⟩⟩ ha ⟨dx, z, p, e2, hl2.room, hl2⟩
  · rw [if_neg (fun e => by cases e)]
    refine ⟨_, _, _, e0, T.c_Tokens, T.n_Tokens_token, _, rfl, ?_⟩
    obtain ⟨a', e, ha⟩ := tokD_at hat
    cases e
    exact k2 _ _ a x rest q rfl same_rfl ⟨_, hj, hI, dx, z, p, _, rfl, hz, .inr ⟨x, rest, q, a, rfl, rfl, hat, hl⟩⟩ ha ⟨dx, z, p, e0, hl.room, hl⟩
end
/-! ### text P4 -/
def named (x : Str) : Bool := decide (kindOf x = "word") && !decide (x ∈ kws)
def counted (x : Str) : Bool := decide (kindOf x = "number")
def headB (f : Str → Bool) : List Str → Bool
  | [] => false
  | x :: _ => f x
/-- a test of the next token -/
def spTest (K : PySem.W.Frag) (f : Str → Bool) : Sp := fun vs H Q _ => ∃ (I : Hp → List (Addr × HO) → Hp → Prop) (D : Hp) (fr : List (Addr × HO)) (j : Nat) (T : Addr) (ts : List Str), Ground I ∧ vs = [.ref T] ∧ TKs I K D fr j T H ts ∧
  ∀ (D' H' : Hp), Same D D' → TKs I K D' fr j T H' ts → Q (.bl (headB f ts)) H'
def spIsSign (K : PySem.W.Frag) : Sp := fun vs H Q _ => ∃ (I : Hp → List (Addr × HO) → Hp → Prop) (D : Hp) (fr : List (Addr × HO)) (j : Nat) (T : Addr) (ts : List Str) (s : Str), Ground I ∧ vs = [.ref T, .str s] ∧ TKs I K D fr j T H ts ∧
  ∀ (D' H' : Hp), Same D D' → TKs I K D' fr j T H' ts → Q (.bl (headB (fun x => decide (x = s)) ts)) H'
def spAdv (K : PySem.W.Frag) : Sp := fun vs H Q _ => ∃ (I : Hp → List (Addr × HO) → Hp → Prop) (D : Hp) (fr : List (Addr × HO)) (j : Nat) (T : Addr) (x : Str) (rest : List Str), Ground I ∧ vs = [.ref T] ∧ TKs I K D fr j T H (x :: rest) ∧
  ∀ (D' H' : Hp), Same D D' → TKs I K D' fr j T H' rest → Q (.str x) H'
def spName (K : PySem.W.Frag) : Sp := fun vs H Q _ => ∃ (I : Hp → List (Addr × HO) → Hp → Prop) (D : Hp) (fr : List (Addr × HO)) (j : Nat) (T : Addr) (x : Str) (rest : List Str), Ground I ∧ vs = [.ref T] ∧ TKs I K D fr j T H (x :: rest) ∧ named x = true ∧
  ∀ (D' H' : Hp), Same D D' → TKs I K D' fr j T H' rest → Q (.str x) H'
def spNeed (K : PySem.W.Frag) : Sp := fun vs H Q _ => ∃ (I : Hp → List (Addr × HO) → Hp → Prop) (D : Hp) (fr : List (Addr × HO)) (j : Nat) (T : Addr) (x : Str) (rest : List Str), Ground I ∧ vs = [.ref T, .str x] ∧ TKs I K D fr j T H (x :: rest) ∧
  ∀ (D' H' : Hp), Same D D' → TKs I K D' fr j T H' rest → Q .non H'
def spOneOf (K : PySem.W.Frag) : Sp := fun vs H Q _ => ∃ (I : Hp → List (Addr × HO) → Hp → Prop) (D : Hp) (fr : List (Addr × HO)) (j : Nat) (T : Addr) (a : Addr) (xs : List Str) (x : Str) (rest : List Str), Ground I ∧ vs = [.ref T, .ref a] ∧ TKs I K D fr j T H (x :: rest) ∧ D a = some (.tup (xs.map V.str)) ∧ x ∈ xs ∧ (∀ y ∈ xs, PyData.strOk y = true) ∧ xs.length ≤ 1000 ∧
  ∀ (D' H' : Hp), Same D D' → TKs I K D' fr j T H' rest → Q (.str x) H'
def spNumber (K : PySem.W.Frag) : Sp := fun vs H Q _ => ∃ (I : Hp → List (Addr × HO) → Hp → Prop) (D : Hp) (fr : List (Addr × HO)) (j : Nat) (T : Addr) (n lim : Nat) (rest : List Str), Ground I ∧ vs = [.ref T, vN lim] ∧ TKs I K D fr j T H (num n :: rest) ∧ counted (num n) = true ∧ n ≤ lim ∧ n ≤ 10 ^ 30 ∧
  ∀ (D' H' : Hp), Same D D' → TKs I K D' fr j T H' rest → Q (vN n) H'
section
variable {P : Program} {w : World} {K : PySem.W.Frag} {mg : Str → Option Value} {base : Heap}
theorem sc_Tokens_is_sign : FnScope ["self", "text", "token"] ["self", "text"] (defScope s_Tokens_is_sign) := ⟨rfl, rfl, rfl, by decide +kernel, rfl, by decide +kernel, by decide +kernel⟩
theorem c_Tokens_is_sign (T : Txt K mg) : C8.Met P w K mg base 5 (He.ga K "Tokens") "is_sign" (spIsSign K) [] := by
  have h_Tokens_look := c_Tokens_look (P := P) (w := w) (base := base) T
  refine met_mk T.m_Tokens_is_sign T.c_Tokens sc_Tokens_is_sign (fun _ _ _ _ _ _ us hl => match us, hl with | [_, _], _ => rfl) (fun vs H Q E h => ?_) (fun f cdv A outer s H vs Q E hr h => ?_)
  · obtain ⟨I, D, fr, j, Tk, ts, s, gI, rfl, _⟩ := h
    rfl
  obtain ⟨I, D, fr, j, Tk, ts, s, gI, rfl, h, k⟩ := h
  refine ⟨_, (pss_cons (ps_set (i := 2) sc_Tokens_is_sign.nd rfl (Or.inl rfl) (C8.pe_mt0 h_Tokens_look hr (by decide) (pv 0))) (pss_one (ps_ret (pe_and (pe_cmpR op_notN (pv 2) pe_non (nomark _)) (pe_one (pe_cmpR op_eq (pe_ix ix_tup (pv 2) pe_int (fun _ _ => rfl)) (pv 1) (nomark _))))))), ?_⟩
  show tSeq _ _ _ [some (.ref Tk), some (.str s), none] H
  obtain ⟨dx, z, p, t, e0⟩ := h.get gI
  walk_at "st"
  refine ⟨_, _, e0, rfl, I, D, fr, j, Tk, ts, gI, rfl, h, fun H1 hts h1 => ?_, fun D1 H1 a x rest q hts s1 h1 ha hL => ?_⟩
  · subst hts
    rw [if_pos rfl]
    exact k _ _ same_rfl h1
  · subst hts
    rw [if_neg (fun e => by cases e)]
    have ha1 := h1.same gI _ _ ha
    refine ⟨_, rfl, _, SqT.of ha1, _, rfl, rfl, ?_⟩
    rw [show decide (V.str x = V.str s) = decide (x = s) from decide_eq_decide.mpr ⟨fun e => V.str.inj e, fun e => by rw [e]⟩]
    exact k _ _ s1 h1
theorem sc_Tokens_is_named : FnScope ["self", "token"] ["self"] (defScope s_Tokens_is_named) := ⟨rfl, rfl, rfl, by decide +kernel, rfl, by decide +kernel, by decide +kernel⟩
theorem c_Tokens_is_named (T : Txt K mg) : C8.Met P w K mg base 5 (He.ga K "Tokens") "is_named" (spTest K named) [] := by
  have h_Tokens_look := c_Tokens_look (P := P) (w := w) (base := base) T
  refine met_mk T.m_Tokens_is_named T.c_Tokens sc_Tokens_is_named (fun _ _ _ _ _ _ us hl => match us, hl with | [_], _ => rfl) (fun vs H Q E h => ?_) (fun f cdv A outer s H vs Q E hr h => ?_)
  · obtain ⟨I, D, fr, j, Tk, ts, gI, rfl, _⟩ := h
    rfl
  obtain ⟨I, D, fr, j, Tk, ts, gI, rfl, h, k⟩ := h
  refine ⟨_, (pss_cons (ps_set (i := 1) sc_Tokens_is_named.nd rfl (Or.inl rfl) (C8.pe_mt0 h_Tokens_look hr (by decide) (pv 0))) (pss_one (ps_ret (pe_and (pe_cmpR op_notN (pv 1) pe_non (nomark _)) (pe_and (pe_cmpR op_eq (pe_ix ix_tup (pv 1) pe_int (fun _ _ => rfl)) pe_str (nomark _)) (pe_one (pe_cmpR op_notIn_seq (pe_ix ix_tup (pv 1) pe_int (fun _ _ => rfl)) (C8.pe_gc rfl T.g_KEYWORDS) (by rfl)))))))), ?_⟩
  show tSeq _ _ _ [some (.ref Tk), none] H
  obtain ⟨dx, z, p, t, e0⟩ := h.get gI
  walk_at "st"
  refine ⟨_, _, e0, rfl, I, D, fr, j, Tk, ts, gI, rfl, h, fun H1 hts h1 => ?_, fun D1 H1 a x rest q hts s1 h1 ha hL => ?_⟩
  · subst hts
    rw [if_pos rfl]
    exact k _ _ same_rfl h1
  · subst hts
    rw [if_neg (fun e => by cases e)]
    have ha1 := h1.same gI _ _ ha
    refine ⟨_, rfl, _, SqT.of ha1, _, rfl, rfl, ?_⟩
    have kk := k _ _ s1 h1
    refine ite2 (fun e => ?_) (fun e => ?_)
    · refine ⟨_, rfl, _, SqT.of ha1, _, rfl, _, .inr (T.kwT H1), rfl, flat_strs _, ?_⟩
      rw [inV_strs]
      rw [show headB named (x :: rest) = !decide (x ∈ kws) by show (decide (kindOf x = "word") && _) = _; rw [decT (V.str.inj e), Bool.true_and]] at kk
      exact kk
    · rw [show headB named (x :: rest) = false by show (decide (kindOf x = "word") && _) = _; rw [decF (fun z => e (by rw [z])), Bool.false_and]] at kk
      exact kk
theorem sc_Tokens_is_counted : FnScope ["self", "token"] ["self"] (defScope s_Tokens_is_counted) := ⟨rfl, rfl, rfl, by decide +kernel, rfl, by decide +kernel, by decide +kernel⟩
theorem c_Tokens_is_counted (T : Txt K mg) : C8.Met P w K mg base 5 (He.ga K "Tokens") "is_counted" (spTest K counted) [] := by
  have h_Tokens_look := c_Tokens_look (P := P) (w := w) (base := base) T
  refine met_mk T.m_Tokens_is_counted T.c_Tokens sc_Tokens_is_counted (fun _ _ _ _ _ _ us hl => match us, hl with | [_], _ => rfl) (fun vs H Q E h => ?_) (fun f cdv A outer s H vs Q E hr h => ?_)
  · obtain ⟨I, D, fr, j, Tk, ts, gI, rfl, _⟩ := h
    rfl
  obtain ⟨I, D, fr, j, Tk, ts, gI, rfl, h, k⟩ := h
  refine ⟨_, (pss_cons (ps_set (i := 1) sc_Tokens_is_counted.nd rfl (Or.inl rfl) (C8.pe_mt0 h_Tokens_look hr (by decide) (pv 0))) (pss_one (ps_ret (pe_and (pe_cmpR op_notN (pv 1) pe_non (nomark _)) (pe_one (pe_cmpR op_eq (pe_ix ix_tup (pv 1) pe_int (fun _ _ => rfl)) pe_str (nomark _))))))), ?_⟩
  show tSeq _ _ _ [some (.ref Tk), none] H
  obtain ⟨dx, z, p, t, e0⟩ := h.get gI
  walk_at "st"
  refine ⟨_, _, e0, rfl, I, D, fr, j, Tk, ts, gI, rfl, h, fun H1 hts h1 => ?_, fun D1 H1 a x rest q hts s1 h1 ha hL => ?_⟩
  · subst hts
    rw [if_pos rfl]
    exact k _ _ same_rfl h1
  · subst hts
    rw [if_neg (fun e => by cases e)]
    have ha1 := h1.same gI _ _ ha
    refine ⟨_, rfl, _, SqT.of ha1, _, rfl, rfl, ?_⟩
    rw [show decide (V.str (kindOf x) = V.str "number") = decide (kindOf x = "number") from decide_eq_decide.mpr ⟨fun e => V.str.inj e, fun e => by rw [e]⟩]
    exact k _ _ s1 h1
theorem sc_Tokens_advance : FnScope ["self", "token"] ["self"] (defScope s_Tokens_advance) := ⟨rfl, rfl, rfl, by decide +kernel, rfl, by decide +kernel, by decide +kernel⟩
theorem c_Tokens_advance (T : Txt K mg) : C8.Met P w K mg base 5 (He.ga K "Tokens") "advance" (spAdv K) [] := by
  have h_Tokens_look := c_Tokens_look (P := P) (w := w) (base := base) T
  refine met_mk T.m_Tokens_advance T.c_Tokens sc_Tokens_advance (fun _ _ _ _ _ _ us hl => match us, hl with | [_], _ => rfl) (fun vs H Q E h => ?_) (fun f cdv A outer s H vs Q E hr h => ?_)
  · obtain ⟨I, D, fr, j, Tk, x, rest, gI, rfl, _⟩ := h
    rfl
  obtain ⟨I, D, fr, j, Tk, x, rest, gI, rfl, h, k⟩ := h
  refine ⟨_, (pss_cons (ps_set (i := 1) sc_Tokens_advance.nd rfl (Or.inl rfl) (C8.pe_mt0 h_Tokens_look hr (by decide) (pv 0))) (pss_cons (ps_if (pt_cmpR op_isN (pv 1) pe_non (nomark _)) (pss_one ps_never) pss_nil) (pss_cons (ps_asg (pe_tup (pa_cons (pe_op op_add (pe_ix ix_tup (pv 1) pe_int (fun _ _ => rfl)) (pe_callB call_len_str (by rfl) T.b_len PySem.boot_len (pa_cons (pe_ix ix_tup (pv 1) pe_int (fun _ _ => rfl)) pa_nil))) (pa_cons pe_non pa_nil))) (pg_tup rfl (pgs_cons (pg_fld (pv 0)) (pgs_cons (pg_fld (pv 0)) pgs_nil)))) (pss_one (ps_ret (pe_ix ix_tup (pv 1) pe_int (fun _ _ => rfl))))))), ?_⟩
  show tSeq _ _ _ [some (.ref Tk), none] H
  obtain ⟨dx, z, p, t, e0⟩ := h.get gI
  walk_at "st"
  refine ⟨_, _, e0, rfl, I, D, fr, j, Tk, _, gI, rfl, h, fun H1 hts h1 => (by cases hts), fun D1 H1 a x rest q hts s1 h1 ha hL => ?_⟩
  cases hts
  walk_at "st"
  walk_at "st"
  have ha1 := h1.same gI _ _ ha
  obtain ⟨dx1, z1, p1, e1, hzx, hL⟩ := hL
  obtain ⟨o, hj, hI, dx2, z2, p2, t2, rfl, hz, _⟩ := h1
  have e3 := gI.get j hI (List.getElem?_set_self hj)
  rw [e1] at e3
  cases e3
  refine ⟨_, SqT.of ha1, _, rfl, _, SqT.of ha1, _, rfl, x, rfl, by rw [sizeLine_eq]; omega, _, rfl, fun p3 n3 => ?_⟩
  have h2 := gI.tmp (.tup [.int ((q : Int) + (x.length : Int)), .non]) hI n3
  have h3 := gI.upd j (tkO K dx1 z1 (q + x.length) (.ref a)) h2 (List.getElem?_set_self hj)
  have e2 := gI.get j h2 (List.getElem?_set_self hj)
  rw [List.set_set] at h3
  have e3 := gI.get j h3 (List.getElem?_set_self hj)
  have h4 := gI.upd j (tkO K dx1 z1 (q + x.length) .non) h3 (List.getElem?_set_self hj)
  rw [List.set_set] at h4
  refine ⟨_, SqT.of upd_same, rfl, _, _, rfl, _, _, _, e2, T.c_Tokens, T.n_Tokens_place, by show 3 < 1000; decide, _, _, rfl, _, _, _, e3, T.c_Tokens, T.n_Tokens_token, by show 3 < 1000; decide, rfl, ?_⟩
  walk_at "rd"
  have ha4 := gI.same h4 _ _ ha
  exact ⟨_, SqT.of ha4, _, rfl, k _ _ s1 ⟨_, hj, h4, dx1, z1, q + x.length, _, rfl, hz, .inl ⟨rfl, hL⟩⟩⟩
end
/-! ### text P5 -/
/-- the ground with the tokens out of sight: whatever is looked at, the same are left -/
theorem ground_Tk {I : Hp → List (Addr × HO) → Hp → Prop} (gI : Ground I) (K : PySem.W.Frag) (fr : List (Addr × HO)) (j : Nat) (T : Addr) (ts : List Str) : Ground (fun D fr' H => ∃ o, I D (fr' ++ fr.set j (T, o)) H ∧ TkAt K D o ts) where
  same h := by
    obtain ⟨o, h, _⟩ := h
    exact gI.same h
  get i a o h e := by
    obtain ⟨o1, h, _⟩ := h
    exact (gI.behind _).get i h e
  new o h hp := by
    obtain ⟨o1, h, ht⟩ := h
    obtain ⟨h2, s2⟩ := (gI.behind _).new o h hp
    exact ⟨⟨o1, h2, ht.up s2⟩, s2⟩
  tmp o h hp := by
    obtain ⟨o1, h, ht⟩ := h
    exact ⟨o1, (gI.behind _).tmp o h hp, ht⟩
  put o h hp := by
    obtain ⟨o1, h, ht⟩ := h
    exact ⟨o1, (gI.behind _).put o h hp, ht⟩
  upd i a o o' h e := by
    obtain ⟨o1, h, ht⟩ := h
    exact ⟨o1, (gI.behind _).upd i o' h e, ht⟩
  sub h s := by
    obtain ⟨o1, h, ht⟩ := h
    exact ⟨o1, (gI.behind _).sub h s, ht⟩
  perm h s := by
    obtain ⟨o1, h, ht⟩ := h
    exact ⟨o1, (gI.behind _).perm h s, ht⟩
  fix h := by
    obtain ⟨o1, h, ht⟩ := h
    obtain ⟨h2, s2⟩ := (gI.behind _).fix h
    exact ⟨⟨o1, h2, ht.up s2⟩, s2⟩
section
variable {P : Program} {w : World} {K : PySem.W.Frag} {mg : Str → Option Value} {base : Heap}
theorem sc_Tokens_need : FnScope ["self", "text"] ["self", "text"] (defScope s_Tokens_need) := ⟨rfl, rfl, rfl, by decide +kernel, rfl, by decide +kernel, by decide +kernel⟩
theorem c_Tokens_need (T : Txt K mg) : C8.Met P w K mg base 6 (He.ga K "Tokens") "need" (spNeed K) [] := by
  have h_Tokens_is_sign := c_Tokens_is_sign (P := P) (w := w) (base := base) T
  have h_Tokens_advance := c_Tokens_advance (P := P) (w := w) (base := base) T
  refine met_mk T.m_Tokens_need T.c_Tokens sc_Tokens_need (fun _ _ _ _ _ _ us hl => match us, hl with | [_, _], _ => rfl) (fun vs H Q E h => ?_) (fun f cdv A outer s H vs Q E hr h => ?_)
  · obtain ⟨I, D, fr, j, Tk, x, rest, gI, rfl, _⟩ := h
    rfl
  obtain ⟨I, D, fr, j, Tk, x, rest, gI, rfl, h, k⟩ := h
  refine ⟨_, (pss_cons (ps_if (pt_not (pt_val (C8.pe_mt h_Tokens_is_sign hr (by decide) (pv 0) (pa_cons (pv 1) pa_nil)))) (pss_one ps_never) pss_nil) (pss_one (ps_expr (C8.pe_mt0 h_Tokens_advance hr (by decide) (pv 0))))), ?_⟩
  show tSeq _ _ _ [some (.ref Tk), some (.str x)] H
  obtain ⟨dx, z, p, t, e0⟩ := h.get gI
  walk_at "st"
  refine ⟨_, _, e0, rfl, I, D, fr, j, Tk, _, x, gI, rfl, h, fun D1 H1 s1 h1 => ?_⟩
  rw [show headB (fun y => decide (y = x)) (x :: rest) = true from decide_eq_true rfl]
  obtain ⟨dx, z, p, t, e1⟩ := h1.get gI
  walk_at "st"
  rw [if_neg (by decide)]
  exact ⟨_, _, e1, rfl, I, D1, fr, j, Tk, x, rest, gI, rfl, h1, fun D2 H2 s2 h2 => k _ _ (same_tr s1 s2) h2⟩
theorem sc_Tokens_name : FnScope ["self"] ["self"] (defScope s_Tokens_name) := ⟨rfl, rfl, rfl, by decide +kernel, rfl, by decide +kernel, by decide +kernel⟩
theorem c_Tokens_name (T : Txt K mg) : C8.Met P w K mg base 6 (He.ga K "Tokens") "name" (spName K) [] := by
  have h_Tokens_is_named := c_Tokens_is_named (P := P) (w := w) (base := base) T
  have h_Tokens_advance := c_Tokens_advance (P := P) (w := w) (base := base) T
  refine met_mk T.m_Tokens_name T.c_Tokens sc_Tokens_name (fun _ _ _ _ _ _ us hl => match us, hl with | [_], _ => rfl) (fun vs H Q E h => ?_) (fun f cdv A outer s H vs Q E hr h => ?_)
  · obtain ⟨I, D, fr, j, Tk, x, rest, gI, rfl, _⟩ := h
    rfl
  obtain ⟨I, D, fr, j, Tk, x, rest, gI, rfl, h, hn, k⟩ := h
  refine ⟨_, (pss_cons (ps_if (pt_not (pt_val (C8.pe_mt0 h_Tokens_is_named hr (by decide) (pv 0)))) (pss_one ps_never) pss_nil) (pss_one (ps_ret (C8.pe_mt0 h_Tokens_advance hr (by decide) (pv 0))))), ?_⟩
  show tSeq _ _ _ [some (.ref Tk)] H
  obtain ⟨dx, z, p, t, e0⟩ := h.get gI
  walk_at "st"
  refine ⟨_, _, e0, rfl, I, D, fr, j, Tk, _, gI, rfl, h, fun D1 H1 s1 h1 => ?_⟩
  rw [show headB named (x :: rest) = true from hn]
  obtain ⟨dx, z, p, t, e1⟩ := h1.get gI
  walk_at "st"
  rw [if_neg (by decide)]
  exact ⟨_, _, e1, rfl, I, D1, fr, j, Tk, x, rest, gI, rfl, h1, fun D2 H2 s2 h2 => k _ _ (same_tr s1 s2) h2⟩
theorem sc_Tokens_one_of : FnScope ["self", "texts", "text"] ["self", "texts"] (defScope s_Tokens_one_of) := ⟨rfl, rfl, rfl, by decide +kernel, rfl, by decide +kernel, by decide +kernel⟩
theorem c_Tokens_one_of (T : Txt K mg) : C8.Met P w K mg base 6 (He.ga K "Tokens") "one_of" (spOneOf K) [] := by
  have h_Tokens_is_sign := c_Tokens_is_sign (P := P) (w := w) (base := base) T
  have h_Tokens_advance := c_Tokens_advance (P := P) (w := w) (base := base) T
  refine met_mk T.m_Tokens_one_of T.c_Tokens sc_Tokens_one_of (fun _ _ _ _ _ _ us hl => match us, hl with | [_, _], _ => rfl) (fun vs H Q E h => ?_) (fun f cdv A outer s H vs Q E hr h => ?_)
  · obtain ⟨I, D, fr, j, Tk, a, xs, x, rest, gI, rfl, _⟩ := h
    rfl
  obtain ⟨I, D, fr, j, Tk, a, xs, x, rest, gI, rfl, h, ha, hx, hok, hl, k⟩ := h
  refine ⟨_, (pss_cons (ps_if (pt_cmpR (op_eqD hr.units) (pe_lc (g := _) (tt := _) (te := _) (own := [("text", 2)]) rfl sc_Tokens_one_of.nd (pi_tup (pv 1)) (blkOk_by (by kernel_rfl)) (fun _ _ _ _ _ => (pg_name (i := 2) sc_Tokens_one_of.nd rfl (.inl rfl))) (fun _ _ _ _ _ => (pts_one (pt_val (C8.pe_mt h_Tokens_is_sign hr (by decide) (pv 0) (pa_cons (pv 2) pa_nil))))) (fun _ _ _ _ _ => (pv 2))) (pe_lst pa_nil) (nomark _)) (pss_one ps_never) pss_nil) (pss_one (ps_ret (C8.pe_mt0 h_Tokens_advance hr (by decide) (pv 0))))), ?_⟩
  show tSeq _ _ _ [some (.ref Tk), some (.ref a), none] H
  walk_at "st"
  have ha0 := h.same gI _ _ ha
  refine ⟨⟨_, SqT.of ha0⟩, ?_⟩
  obtain ⟨o, hj, hI, hTk⟩ := h
  have g2 := ground_Tk gI K fr j Tk (x :: rest)
  refine gathP g2 (src_tup (enc := PyData.str) g2 (.inl ha) (AtL.strs.mpr rfl)) (show (fun D fr' H => ∃ o, I D (fr' ++ fr.set j (Tk, o)) H ∧ TkAt K D o (x :: rest)) D [] H from ⟨o, hI, hTk⟩) (fun y => decide (x = y)) (by omega) ?_ ?_
  · rintro i v y D5 q5 H5 hy hv s5 ⟨o5, hI5, hTk5⟩ Ny Nn hyes hno
    obtain rfl := hv.str_is
    have h5 : TKs I K D5 (q5 :: fr) (j + 1) Tk H5 (x :: rest) := ⟨o5, Nat.succ_lt_succ hj, hI5, hTk5⟩
    obtain ⟨dx, z, p, t, e5⟩ := h5.get gI
    walk_at "rd"
    refine ⟨_, _, e5, rfl, I, D5, _, j + 1, Tk, _, y, gI, rfl, h5, fun D6 H6 s6 h6 => ?_⟩
    obtain ⟨o6, _, hI6, hTk6⟩ := h6
    have w6 : ∃ o, I D6 ([q5] ++ fr.set j (Tk, o)) H6 ∧ TkAt K D6 o (x :: rest) := ⟨o6, hI6, hTk6⟩
    refine ⟨_, rfl, ?_⟩
    show if decide (x = y) = true then _ else _
    refine ite2 (fun e => ?_) (fun e => ?_)
    · walk_at "rd"
      exact hyes _ _ s6 w6 e
    · exact hno _ _ s6 w6 (by simpa using e)
  rintro D6 H6 v s6 ⟨o6, hI6, hTk6⟩ hv
  intro p7 n7
  obtain ⟨pv, xv, rfl, hpv, hxv⟩ := hv.lst_is
  have h7 : TKs I K D6 fr j Tk (upd H6 p7 (.lst [])) (x :: rest) := TKs.tmp gI ⟨o6, hj, hI6, hTk6⟩ n7 _
  refine ⟨_, .lst (SqL.of (h7.same gI _ _ hpv)) (AtL.dp (h7.same gI) hxv), _, .lst (SqL.of upd_same) .nil, shaped_strs fun y hy => hok y (List.mem_filter.mp hy).1, shaped_nil, ?_⟩
  rw [eqv_nil, if_neg]
  · obtain ⟨dx, z, p, t, e7⟩ := h7.get gI
    exact ⟨_, _, e7, rfl, I, D6, fr, j, Tk, x, rest, gI, rfl, h7, fun D8 H8 s8 h8 => k _ _ (same_tr s6 s8) h8⟩
  · have : x ∈ xs.filter fun y => decide (x = y) := List.mem_filter.mpr ⟨hx, by simp⟩
    cases hz : xs.filter fun y => decide (x = y) with
    | nil => rw [hz] at this; cases this
    | cons a l => simp
theorem sc_Tokens_number : FnScope ["self", "limit", "found"] ["self", "limit"] (defScope s_Tokens_number) := ⟨rfl, rfl, rfl, by decide +kernel, rfl, by decide +kernel, by decide +kernel⟩
theorem c_Tokens_number (T : Txt K mg) : C8.Met P w K mg base 6 (He.ga K "Tokens") "number" (spNumber K) [] := by
  have h_Tokens_is_counted := c_Tokens_is_counted (P := P) (w := w) (base := base) T
  have h_Tokens_advance := c_Tokens_advance (P := P) (w := w) (base := base) T
  refine met_mk T.m_Tokens_number T.c_Tokens sc_Tokens_number (fun _ _ _ _ _ _ us hl => match us, hl with | [_, _], _ => rfl) (fun vs H Q E h => ?_) (fun f cdv A outer s H vs Q E hr h => ?_)
  · obtain ⟨I, D, fr, j, Tk, n, lim, rest, gI, rfl, _⟩ := h
    rfl
  obtain ⟨I, D, fr, j, Tk, n, lim, rest, gI, rfl, h, hc, hnl, hn30, k⟩ := h
  refine ⟨_, (pss_cons (ps_if (pt_not (pt_val (C8.pe_mt0 h_Tokens_is_counted hr (by decide) (pv 0)))) (pss_one ps_never) pss_nil) (pss_cons (ps_set (i := 2) sc_Tokens_number.nd rfl (Or.inl rfl) (pe_callTy call_int_str (by rfl) T.b_int boot_int (pa_cons (C8.pe_mt0 h_Tokens_advance hr (by decide) (pv 0)) pa_nil))) (pss_cons (ps_if (pt_cmpR op_gt (pv 2) (pv 1) (nomark _)) (pss_one ps_never) pss_nil) (pss_one (ps_ret (pv 2)))))), ?_⟩
  show tSeq _ _ _ [some (.ref Tk), some (vN lim), none] H
  obtain ⟨dx, z, p, t, e0⟩ := h.get gI
  walk_at "st"
  refine ⟨_, _, e0, rfl, I, D, fr, j, Tk, _, gI, rfl, h, fun D1 H1 s1 h1 => ?_⟩
  rw [show headB counted (num n :: rest) = true from hc]
  obtain ⟨dx, z, p, t, e1⟩ := h1.get gI
  walk_at "st"
  rw [if_neg (by decide)]
  have l31 : (TL.numL n).length ≤ 31 := TL.numL_len (by decide) (Nat.lt_of_le_of_lt hn30 (by decide +kernel))
  have hnl2 : (num n).length ≤ 31 := by
    rw [TL.len_tl]
    show (TL.tl (Str.ofString (toString ((n : Nat) : Int)))).length ≤ 31
    rw [TL.tl_num]
    exact l31
  refine ⟨_, _, e1, rfl, I, D1, fr, j, Tk, num n, rest, gI, rfl, h1, fun D2 H2 s2 h2 => ⟨num n, rfl, n, TL.int_num (by omega), by omega, ?_⟩⟩
  walk_at "st"
  rw [if_neg (by omega)]
  walk_at "st"
  exact k _ _ (same_tr s1 s2) h2
end
/-! ### text P6 -/
section
variable {I : Hp → List (Addr × HO) → Hp → Prop} {K : PySem.W.Frag} {D H : Hp} {fr : List (Addr × HO)} {j : Nat} {T p a : Addr} {ts : List Str} {o o' : HO}
theorem TKs.at_ (gI : Ground I) (h : TKs I K D fr j T H ts) (i : Nat) (hi : i ≠ j) (e : fr[i]? = some (a, o)) : H a = some o := by
  obtain ⟨o1, hj, hI, ht⟩ := h
  exact gI.get i hI (by rw [List.getElem?_set_ne (fun z => hi z.symm)]; exact e)
theorem TKs.upd (gI : Ground I) (h : TKs I K D fr j T H ts) (i : Nat) (hi : i ≠ j) (e : fr[i]? = some (a, o)) (o' : HO) : TKs I K D (fr.set i (a, o')) j T (L2.upd H a o') ts := by
  obtain ⟨o1, hj, hI, ht⟩ := h
  refine ⟨o1, by rw [List.length_set]; exact hj, ?_, ht⟩
  have h2 := gI.upd i o' hI (by rw [List.getElem?_set_ne (fun z => hi z.symm)]; exact e)
  rw [List.set_comm _ _ (fun z => hi z.symm)] at h2
  exact h2
theorem TKs.fix (gI : Ground I) (h : TKs I K D ((a, o) :: fr) (j + 1) T H ts) : TKs I K (L2.upd D a o) fr j T H ts ∧ Same D (L2.upd D a o) := by
  obtain ⟨o1, hj, hI, ht⟩ := h
  have hI2 : I D ((a, o) :: fr.set j (T, o1)) H := hI
  obtain ⟨h2, s2⟩ := gI.fix hI2
  exact ⟨⟨o1, Nat.lt_of_succ_lt_succ hj, h2, ht.up s2⟩, s2⟩
end
/-- the words: tokens T, names at pn, the net -/
def WdAt (K : PySem.W.Frag) (D : Hp) (W T pn : Addr) (names : List Str) (net : V) : Prop := ∃ dx, D W = some (.ins (He.ga K "Words") dx [("left", .ref T), ("names", .ref pn), ("ground", net)]) ∧ D pn = some (.lst (names.map V.str))
theorem WdAt.up {K : PySem.W.Frag} {D D' : Hp} {W T pn : Addr} {names : List Str} {net : V} (h : WdAt K D W T pn names net) (s : Same D D') : WdAt K D' W T pn names net := by
  obtain ⟨dx, h1, h2⟩ := h
  exact ⟨dx, s _ _ h1, s _ _ h2⟩
structure NamesOk (names : List Str) : Prop where
  nd : names.Nodup
  nm : ∀ x ∈ names, named x = true
  len : names.length ≤ 1000
theorem NamesOk.idx {names : List Str} (h : NamesOk names) {i : Nat} (hi : i < names.length) : names.idxOf (nmAt names i) = i ∧ nmAt names i ∈ names ∧ named (nmAt names i) = true := by
  have e := nm_at hi
  have hm := List.mem_of_getElem? e
  refine ⟨?_, hm, h.nm _ hm⟩
  obtain ⟨hl, he⟩ := List.getElem?_eq_some_iff.mp e
  rw [← he]
  exact h.nd.idxOf_getElem i hl
def spWRoad (K : PySem.W.Frag) : Sp := fun vs H Q _ => ∃ (I : Hp → List (Addr × HO) → Hp → Prop) (D : Hp) (fr : List (Addr × HO)) (j : Nat) (T W pn : Addr) (names : List Str) (net : V) (i : Nat) (rest : List Str), Ground I ∧ vs = [.ref W] ∧ TKs I K D fr j T H (nmAt names i :: rest) ∧ WdAt K D W T pn names net ∧ NamesOk names ∧ i < names.length ∧
  ∀ (D' H' : Hp), Same D D' → TKs I K D' fr j T H' rest → Q (vN i) H'
def spWRoads (K : PySem.W.Frag) : Sp := fun vs H Q _ => ∃ (I : Hp → List (Addr × HO) → Hp → Prop) (D : Hp) (fr : List (Addr × HO)) (j : Nat) (T W pn : Addr) (names : List Str) (net : V) (t : List Nat) (rest : List Str), Ground I ∧ vs = [.ref W] ∧ TKs I K D fr j T H (t.map (nmAt names) ++ rest) ∧ WdAt K D W T pn names net ∧ NamesOk names ∧ (∀ i ∈ t, i < names.length) ∧ t ≠ [] ∧ t.length ≤ 1000 ∧ headB named rest = false ∧
  ∀ (D' H' : Hp) (q : Addr), Same D D' → TKs I K D' fr j T H' rest → D' q = some (.lst (t.map vN)) → Q (.ref q) H'
section
variable {P : Program} {w : World} {K : PySem.W.Frag} {mg : Str → Option Value} {base : Heap}
theorem sc_Words_road : FnScope ["self", "name"] ["self"] (defScope s_Words_road) := ⟨rfl, rfl, rfl, by decide +kernel, rfl, by decide +kernel, by decide +kernel⟩
theorem c_Words_road (T : Txt K mg) : C8.Met P w K mg base 7 (He.ga K "Words") "road" (spWRoad K) [] := by
  have h_Tokens_name := c_Tokens_name (P := P) (w := w) (base := base) T
  refine met_mk T.m_Words_road T.c_Words sc_Words_road (fun _ _ _ _ _ _ us hl => match us, hl with | [_], _ => rfl) (fun vs H Q E h => ?_) (fun f cdv A outer s H vs Q E hr h => ?_)
  · obtain ⟨I, D, fr, j, Tk, W, pn, names, net, i, rest, gI, rfl, _⟩ := h
    rfl
  obtain ⟨I, D, fr, j, Tk, W, pn, names, net, i, rest, gI, rfl, h, hw, hn, hi, k⟩ := h
  refine ⟨_, (pss_cons (ps_set (i := 1) sc_Words_road.nd rfl (Or.inl rfl) (C8.pe_mt0 h_Tokens_name hr (by decide) (pe_fld (pv 0) rfl))) (pss_cons (ps_if (pt_cmpR op_notIn_seq (pv 1) (pe_fld (pv 0) rfl) (by rfl)) (pss_one ps_never) pss_nil) (pss_one (ps_ret (pe_bm PySem.F.plainAttrs_list PySem.F.slot_list_index PySem.F.type_list_index mt_index (pe_fld (pv 0) rfl) (pa_cons (pv 1) pa_nil)))))), ?_⟩
  show tSeq _ _ _ [some (.ref W), none] H
  obtain ⟨n1, n2, n3⟩ := hn.idx hi
  obtain ⟨dx, hW, hpn⟩ := hw
  have w0 := h.same gI _ _ hW
  obtain ⟨dx1, z, p, t, e0⟩ := h.get gI
  walk_at "st"
  refine ⟨_, _, _, w0, T.c_Words, T.n_Words_left, _, rfl, _, rfl, _, _, e0, rfl, I, D, fr, j, Tk, _, rest, gI, rfl, h, n3, fun D1 H1 s1 h1 => ?_⟩
  have w1 := h1.same gI _ _ (s1 _ _ hW)
  have p1 := h1.same gI _ _ (s1 _ _ hpn)
  walk_at "st"
  walk_at "st"
  refine ⟨_, _, _, w1, T.c_Words, T.n_Words_names, _, rfl, _, rfl, _, .inl (SqL.of p1), flat_strs _, ?_⟩
  rw [inV_strs, decT n2, if_neg (by decide)]
  refine ⟨_, _, _, w1, T.c_Words, T.n_Words_names, _, rfl, .inl ⟨rfl, _, SqL.of p1⟩, _, rfl, _, SqL.of p1, flat_strs _, _, _, (idx_str n2).1, eqV_str _, (idx_str n2).2, ?_⟩
  rw [n1]
  exact k _ _ s1 h1
theorem sc_Words_roads : FnScope ["self", "found"] ["self"] (defScope s_Words_roads) := ⟨rfl, rfl, rfl, by decide +kernel, rfl, by decide +kernel, by decide +kernel⟩
theorem c_Words_roads (T : Txt K mg) : C8.Met P w K mg base 8 (He.ga K "Words") "roads" (spWRoads K) [] := by
  have h_Words_road : C8.Met P w K mg base 7 (He.ga K "Words") "road" (spWRoad K) [] := c_Words_road T
  have h_Tokens_is_named := c_Tokens_is_named (P := P) (w := w) (base := base) T
  refine met_mk T.m_Words_roads T.c_Words sc_Words_roads (fun _ _ _ _ _ _ us hl => match us, hl with | [_], _ => rfl) (fun vs H Q E h => ?_) (fun f cdv A outer s H vs Q E hr h => ?_)
  · obtain ⟨I, D, fr, j, Tk, W, pn, names, net, t, rest, gI, rfl, _⟩ := h
    rfl
  obtain ⟨I, D, fr, j, Tk, W, pn, names, net, t, rest, gI, rfl, h, hw, hn, hi, ht, htl, hr2, k⟩ := h
  refine ⟨_, (pss_cons (ps_set (i := 1) sc_Words_roads.nd rfl (Or.inl rfl) (pe_lst (pa_cons (C8.pe_mt0 h_Words_road hr (by decide) (pv 0)) pa_nil))) (pss_cons (ps_while PassesOwn.never (pt_val (C8.pe_mt0 h_Tokens_is_named hr (by decide) (pe_fld (pv 0) rfl))) (pss_one (ps_expr (pe_bm PySem.F.plainAttrs_list PySem.F.slot_list_append PySem.F.type_list_append mt_append (pv 1) (pa_cons (C8.pe_mt0 h_Words_road hr (by decide) (pv 0)) pa_nil))))) (pss_one (ps_ret (pv 1))))), ?_⟩
  show tSeq _ _ _ [some (.ref W), none] H
  obtain ⟨i, t, rfl⟩ := List.exists_cons_of_ne_nil ht
  obtain ⟨dx, hW, hpn⟩ := id hw
  have w0 := h.same gI _ _ hW
  walk_at "st"
  refine ⟨_, _, w0, rfl, I, D, fr, j, Tk, W, pn, names, net, i, _, gI, rfl, h, hw, hn, hi i List.mem_cons_self, fun D1 H1 s1 h1 => ?_⟩
  intro pf nf
  have h2 := h1.put gI nf (.lst [vN i])
  walk_at "st"
  refine loop_w (fun m σ H' => ∃ (D' : Hp) (n : Nat), σ = [some (.ref W), some (.ref pf)] ∧ Same D1 D' ∧ TKs I K D' ((pf, .lst ((i :: t.take n).map vN)) :: fr) (j + 1) Tk H' ((t.drop n).map (nmAt names) ++ rest) ∧ n ≤ t.length ∧ m = t.length - n) _ ⟨D1, 0, rfl, same_rfl, h2, Nat.zero_le _, rfl⟩ ?_
  rintro m σ H3 ⟨D3, n, rfl, s3, h3, hn3, rfl⟩
  have s13 := same_tr s1 s3
  have w3 := h3.same gI _ _ (s13 _ _ hW)
  obtain ⟨dx3, z3, p3, t3, e3⟩ := h3.get gI
  walk_at "rd"
  refine ⟨_, _, _, w3, T.c_Words, T.n_Words_left, _, rfl, _, rfl, _, _, e3, rfl, I, D3, _, j + 1, Tk, _, gI, rfl, h3, fun D4 H4 s4 h4 => ⟨_, rfl, ?_⟩⟩
  have s14 := same_tr s13 s4
  by_cases hlt : n < t.length
  · obtain ⟨i', hi'⟩ : ∃ i', t[n]? = some i' := ⟨_, List.getElem?_eq_getElem hlt⟩
    obtain ⟨_, he'⟩ := List.getElem?_eq_some_iff.mp hi'
    have hd : t.drop n = i' :: t.drop (n + 1) := by rw [List.drop_eq_getElem_cons hlt, he']
    have hil := hi i' (List.mem_cons_of_mem _ (List.mem_of_getElem? hi'))
    have h4 : TKs I K D4 ((pf, .lst ((i :: t.take n).map vN)) :: fr) (j + 1) Tk H4 (nmAt names i' :: ((t.drop (n + 1)).map (nmAt names) ++ rest)) := by rw [hd] at h4; exact h4
    rw [show (t.drop n).map (nmAt names) ++ rest = nmAt names i' :: ((t.drop (n + 1)).map (nmAt names) ++ rest) by rw [hd] <;> rfl]
    rw [show headB named (nmAt names i' :: ((t.drop (n + 1)).map (nmAt names) ++ rest)) = true from (hn.idx hil).2.2]
    refine if_eq rfl (stepW fun N hN => ?_)
    walk_at "rd"
    have w4 := h4.same gI _ _ (s14 _ _ hW)
    refine ⟨.inl ⟨rfl, _, SqL.of (h4.at_ gI 0 (by omega) rfl)⟩, _, _, w4, rfl, I, D4, _, j + 1, Tk, W, pn, names, net, i', _, gI, rfl, h4, hw.up s14, hn, hil, fun D5 H5 s5 h5 => ?_⟩
    have htl2 : (t.take n).length ≤ 1000 := by rw [List.length_take]; simp at htl; omega
    refine ⟨_, h5.at_ gI 0 (by omega) rfl, szl (by rw [List.length_map, List.length_cons]; omega), ?_⟩
    have h6 := h5.upd gI 0 (by omega) rfl (.lst ((i :: t.take n).map vN ++ [vN i']))
    refine hN _ _ _ (show t.length - (n + 1) < t.length - n by omega) ⟨rfl, D5, same_tr s3 (same_tr s4 s5), n + 1, ?_, by omega, rfl⟩
    have e : (i :: t.take n).map vN ++ [vN i'] = (i :: t.take (n + 1)).map vN := by
      rw [List.take_add_one, hi', List.map_cons, List.map_cons, List.map_append] <;> rfl
    rw [e] at h6 ⊢
    exact h6
  · have hn4 : n = t.length := by omega
    subst hn4
    rw [List.drop_length, List.map_nil, List.nil_append] at h4 ⊢
    rw [hr2]
    refine if_ne rfl ?_
    obtain ⟨h5, s5⟩ := h4.fix gI
    walk_at "rd"
    refine k _ _ pf (same_tr s14 s5) h5 ?_
    rw [List.take_length]
    exact upd_same
end
/-! ### text P7 -/
def QuG (m : Nat) : Qu → Prop
  | .along t => t ≠ [] ∧ (∀ i ∈ t, i < m) ∧ t.length ≤ 1000
  | .touch t => t ≠ [] ∧ (∀ i ∈ t, i < m) ∧ t.length ≤ 1000 ∧ t.Pairwise (· < ·)
  | .both a b => a < m ∧ b < m
def SaG (m : Nat) : Sa → Prop
  | .least n q => n ≤ 10 ^ 30 ∧ QuG m q
  | .most n q => n ≤ 10 ^ 30 ∧ QuG m q
  | .follow a b => a < m ∧ b < m
  | .no s => SaG m s
def AsG (m : Nat) : As → Prop
  | .least q => QuG m q
  | .most q => QuG m q
  | .followers a => a < m
  | .sure => True
  | .say s => SaG m s ∧ s.nots ≤ 8
theorem sorted_eq : ∀ {w t : List Nat}, w.Pairwise (· ≤ ·) → t.Pairwise (· ≤ ·) → w.Perm t → w = t
  | [], t, _, _, h => (List.Perm.nil_eq h)
  | a :: w, [], _, _, h => by have := h.length_eq; simp at this
  | a :: w, b :: t, h1, h2, h => by
    have ha : a ∈ b :: t := h.mem_iff.mp List.mem_cons_self
    have hb : b ∈ a :: w := h.mem_iff.mpr List.mem_cons_self
    rw [List.pairwise_cons] at h1 h2
    have e : a = b := by
      rcases List.mem_cons.mp ha with e | ha
      · exact e
      · rcases List.mem_cons.mp hb with e | hb
        · exact e.symm
        · have := h1.1 b hb
          have := h2.1 a ha
          omega
    subst e
    rw [sorted_eq h1.2 h2.2 (List.Perm.cons_inv h)]
def wrap : Nat → Sa → Sa
  | 0, s => s
  | k + 1, s => .no (wrap k s)
theorem saw_split {names : List Str} {m : Nat} : ∀ {s : Sa} {ws : List Str}, SaW names s ws → SaG m s → ∃ core ws0, s = wrap s.nots core ∧ ws = List.replicate s.nots ("not" : Str) ++ ws0 ∧ SaW names core ws0 ∧ core.nots = 0 ∧ SaG m core
  | _, _, .least n h, g => ⟨_, _, rfl, rfl, .least n h, rfl, g⟩
  | _, _, .most n h, g => ⟨_, _, rfl, rfl, .most n h, rfl, g⟩
  | _, _, .follow a b, g => ⟨_, _, rfl, rfl, .follow a b, rfl, g⟩
  | _, _, .no (s := s) h, g => by
    obtain ⟨core, ws0, e1, e2, h3, h4, h5⟩ := saw_split (s := s) h g
    exact ⟨core, ws0, congrArg Sa.no e1, by rw [e2] <;> rfl, h3, h4, h5⟩
def spWQ (K : PySem.W.Frag) : Sp := fun vs H Q _ => ∃ (I : Hp → List (Addr × HO) → Hp → Prop) (D : Hp) (fr : List (Addr × HO)) (j : Nat) (T W pn : Addr) (names : List Str) (net : V) (q : Qu) (ws rest : List Str), Ground I ∧ vs = [.ref W] ∧ TKs I K D fr j T H (ws ++ rest) ∧ WdAt K D W T pn names net ∧ NamesOk names ∧ QuW names q ws ∧ QuG names.length q ∧ headB named rest = false ∧
  ∀ (D' H' : Hp) (v : V), Same D D' → TKs I K D' fr j T H' rest → At D' v q.d → Q v H'
section
variable {P : Program} {w : World} {K : PySem.W.Frag} {mg : Str → Option Value} {base : Heap}
theorem sc_Words_question : FnScope ["self", "word", "one", "roads"] ["self"] (defScope s_Words_question) := ⟨rfl, rfl, rfl, by decide +kernel, rfl, by decide +kernel, by decide +kernel⟩
theorem c_Words_question (T : Txt K mg) : C8.Met P w K mg base 9 (He.ga K "Words") "question" (spWQ K) [] := by
  have h_Words_road : C8.Met P w K mg base 7 (He.ga K "Words") "road" (spWRoad K) [] := c_Words_road T
  have h_Words_roads : C8.Met P w K mg base 8 (He.ga K "Words") "roads" (spWRoads K) [] := c_Words_roads T
  have h_Tokens_one_of := c_Tokens_one_of (P := P) (w := w) (base := base) T
  refine met_mk T.m_Words_question T.c_Words sc_Words_question (fun _ _ _ _ _ _ us hl => match us, hl with | [_], _ => rfl) (fun vs H Q E h => ?_) (fun f cdv A outer s H vs Q E hr h => ?_)
  · obtain ⟨I, D, fr, j, Tk, W, pn, names, net, q, ws, rest, gI, rfl, _⟩ := h
    rfl
  obtain ⟨I, D, fr, j, Tk, W, pn, names, net, q, ws, rest, gI, rfl, h, hw, hn, hqw, hqg, hr2, k⟩ := h
  refine ⟨_, (pss_cons (ps_set (i := 1) sc_Words_question.nd rfl (Or.inl rfl) (C8.pe_mt h_Tokens_one_of hr (by decide) (pe_fld (pv 0) rfl) (pa_cons (pe_tup (pa_cons pe_str (pa_cons pe_str (pa_cons pe_str pa_nil)))) pa_nil))) (pss_cons (ps_if (pt_cmpR op_eq (pv 1) pe_str (nomark _)) (pss_cons (ps_set (i := 2) sc_Words_question.nd rfl (Or.inl rfl) (C8.pe_mt0 h_Words_road hr (by decide) (pv 0))) (pss_one (ps_ret (pe_tup (pa_cons (pv 1) (pa_cons (pv 2) (pa_cons (C8.pe_mt0 h_Words_road hr (by decide) (pv 0)) pa_nil))))))) pss_nil) (pss_cons (ps_set (i := 3) sc_Words_question.nd rfl (Or.inl rfl) (C8.pe_mt0 h_Words_roads hr (by decide) (pv 0))) (pss_one (ps_ret (pe_tup (pa_cons (pv 1) (pa_cons (pe_callTy call_tuple_ofN (by rfl) T.b_tuple boot_tuple (pa_cons (pe_ifExp (pt_cmpR op_eq (pv 1) pe_str (nomark _)) (pe_callB cr_sortedI (by rfl) T.b_sorted boot_sorted (pa_cons (pv 3) pa_nil)) (pv 3)) pa_nil)) pa_nil)))))))), ?_⟩
  show tSeq _ _ _ [some (.ref W), none, none, none] H
  obtain ⟨dx, hW, hpn⟩ := id hw
  have w0 := h.same gI _ _ hW
  obtain ⟨dx1, z, p, t, e0⟩ := h.get gI
  obtain ⟨wd, tl, rfl, hwd⟩ : ∃ wd tl, ws = wd :: tl ∧ wd ∈ (["along", "touch", "both"] : List Str) := by
    cases hqw with
    | along t => exact ⟨_, _, rfl, by decide +kernel⟩
    | touch t u _ => exact ⟨_, _, rfl, by decide +kernel⟩
    | both a b => exact ⟨_, _, rfl, by decide +kernel⟩
  walk_at "st"
  refine ⟨_, _, _, w0, T.c_Words, T.n_Words_left, _, rfl, _, rfl, _, _, e0, rfl, fun p1 n1 => ?_⟩
  obtain ⟨h1, s1⟩ := h.new gI n1 (.tup [.str "along", .str "touch", .str "both"])
  refine ⟨I, _, fr, j, Tk, p1, ["along", "touch", "both"], wd, tl ++ rest, gI, rfl, h1, upd_same, hwd, by decide +kernel, by decide, fun D2 H2 s2 h2 => ?_⟩
  have s12 := same_tr s1 s2
  have w2 := h2.same gI _ _ (s12 _ _ hW)
  have hw2 := hw.up s12
  walk_at "st"
  walk_at "st"
  cases hqw with
  | both a b =>
    rw [if_pos rfl]
    walk_at "st"
    refine ⟨_, _, w2, rfl, I, D2, fr, j, Tk, W, pn, names, net, a, _, gI, rfl, h2, hw2, hn, hqg.1, fun D3 H3 s3 h3 => ?_⟩
    have w3 := h3.same gI _ _ (s3 _ _ (s12 _ _ hW))
    walk_at "rd"
    refine ⟨_, _, w3, rfl, I, D3, fr, j, Tk, W, pn, names, net, b, _, gI, rfl, h3, hw2.up s3, hn, hqg.2, fun D4 H4 s4 h4 => ?_⟩
    intro p5 n5
    obtain ⟨h5, s5⟩ := h4.new gI n5 (.tup [.str "both", vN a, vN b])
    exact k _ _ _ (same_tr s12 (same_tr s3 (same_tr s4 s5))) h5 (.tup upd_same (.cons (.str _) (.cons (.int _) (.cons (.int _) .nil))))
  | along t =>
    rw [if_neg (by decide +kernel)]
    walk_at "st"
    refine ⟨_, _, w2, rfl, I, D2, fr, j, Tk, W, pn, names, net, t, rest, gI, rfl, h2, hw2, hn, hqg.2.1, hqg.1, hqg.2.2, hr2, fun D3 H3 q3 s3 h3 hq3 => ?_⟩
    have hq30 := h3.same gI _ _ hq3
    walk_at "st"
    walk_at "st"
    rw [if_neg (by decide +kernel)]
    refine ⟨_, .inl ⟨SqL.of hq30, fun p4 n4 => ?_⟩⟩
    obtain ⟨h4, s4⟩ := h3.new gI n4 (.tup (t.map vN))
    intro p5 n5
    obtain ⟨h5, s5⟩ := h4.new gI n5 (.tup [.str "along", .ref p4])
    exact k _ _ _ (same_tr s12 (same_tr s3 (same_tr s4 s5))) h5 (.tup upd_same (.cons (.str _) (.cons (.tup (s5 _ _ upd_same) (AtL.nats.mpr rfl)) .nil)))
  | touch t u hu =>
    have hui : ∀ i ∈ u, i < names.length := fun i hi => hqg.2.1 i (hu.mem_iff.mp hi)
    have hune : u ≠ [] := fun z => hqg.1 (by rw [z] at hu; exact (List.Perm.nil_eq hu).symm)
    rw [if_neg (by decide +kernel)]
    walk_at "st"
    refine ⟨_, _, w2, rfl, I, D2, fr, j, Tk, W, pn, names, net, u, rest, gI, rfl, h2, hw2, hn, hui, hune, by rw [hu.length_eq]; exact hqg.2.2.1, hr2, fun D3 H3 q3 s3 h3 hq3 => ?_⟩
    have hq30 := h3.same gI _ _ hq3
    walk_at "st"
    walk_at "st"
    rw [nats_of] at hq30
    refine ⟨_, SqL.of hq30, fun ns p4 hperm hsort n4 => ?_⟩
    obtain ⟨w', rfl, hw1, hw2'⟩ := perm_nat hperm
    have ew : w' = t := sorted_eq (hw2' hsort) (hqg.2.2.2.imp fun {a b} hab => Nat.le_of_lt hab) (hw1.trans hu)
    subst ew
    rw [← nats_of]
    have h4 := h3.tmp gI n4 (.lst (w'.map vN))
    refine ⟨_, .inl ⟨SqL.of upd_same, fun p5 n5 => ?_⟩⟩
    obtain ⟨h5, s5⟩ := h4.new gI n5 (.tup (w'.map vN))
    intro p6 n6
    obtain ⟨h6, s6⟩ := h5.new gI n6 (.tup [.str "touch", .ref p5])
    exact k _ _ _ (same_tr s12 (same_tr s3 (same_tr s5 s6))) h6 (.tup upd_same (.cons (.str _) (.cons (.tup (s6 _ _ upd_same) (AtL.nats.mpr rfl)) .nil)))
end
/-! ### text P8 -/
theorem counted_num (n : Nat) : counted (num n) = true := by
  unfold counted
  refine decide_eq_true ?_
  unfold kindOf
  have e : cds (num n) = TL.numL n := TL.tl_num n
  rw [e]
  cases h : TL.numL n with
  | nil => exact absurd h (TL.numL_ne n)
  | cons c r =>
    have hd := TL.numL_digits n c (by rw [h]; exact List.mem_cons_self)
    show (if letter c = true then _ else if figure c = true then _ else _) = _
    rw [if_neg (by unfold letter; simp; omega), if_pos (by unfold figure; simp; omega)]
theorem wrap_snoc (core : Sa) : ∀ k, wrap (k + 1) core = .no (wrap k core) := fun _ => rfl
def spWS (K : PySem.W.Frag) : Sp := fun vs H Q _ => ∃ (I : Hp → List (Addr × HO) → Hp → Prop) (D : Hp) (fr : List (Addr × HO)) (j : Nat) (T W pn : Addr) (names : List Str) (net : V) (s : Sa) (ws rest : List Str), Ground I ∧ vs = [.ref W] ∧ TKs I K D fr j T H (ws ++ rest) ∧ WdAt K D W T pn names net ∧ NamesOk names ∧ SaW names s ws ∧ SaG names.length s ∧ s.nots ≤ 8 ∧ headB named rest = false ∧
  ∀ (D' H' : Hp) (v : V), Same D D' → TKs I K D' fr j T H' rest → At D' v s.d → Q v H'
section
variable {P : Program} {w : World} {K : PySem.W.Frag} {mg : Str → Option Value} {base : Heap}
theorem sc_Words_saying : FnScope ["self", "many", "word", "one", "found", "number", "turn"] ["self"] (defScope s_Words_saying) := ⟨rfl, rfl, rfl, by decide +kernel, rfl, by decide +kernel, by decide +kernel⟩
theorem c_Words_saying (T : Txt K mg) : C8.Met P w K mg base 10 (He.ga K "Words") "saying" (spWS K) [] := by
  have h_Words_road : C8.Met P w K mg base 7 (He.ga K "Words") "road" (spWRoad K) [] := c_Words_road T
  have h_Words_question : C8.Met P w K mg base 9 (He.ga K "Words") "question" (spWQ K) [] := c_Words_question T
  have h_Tokens_one_of := c_Tokens_one_of (P := P) (w := w) (base := base) T
  have h_Tokens_is_sign := c_Tokens_is_sign (P := P) (w := w) (base := base) T
  have h_Tokens_advance := c_Tokens_advance (P := P) (w := w) (base := base) T
  have h_Tokens_number := c_Tokens_number (P := P) (w := w) (base := base) T
  refine met_mk T.m_Words_saying T.c_Words sc_Words_saying (fun _ _ _ _ _ _ us hl => match us, hl with | [_], _ => rfl) (fun vs H Q E h => ?_) (fun f cdv A outer s H vs Q E hr h => ?_)
  · obtain ⟨I, D, fr, j, Tk, W, pn, names, net, q, ws, rest, gI, rfl, _⟩ := h
    rfl
  obtain ⟨I, D, fr, j, Tk, W, pn, names, net, q, ws, rest, gI, rfl, h, hw, hn, hqw, hqg, hq8, hr2, k⟩ := h
  refine ⟨_, (pss_cons (ps_set (i := 1) sc_Words_saying.nd rfl (Or.inl rfl) pe_int) (pss_cons (ps_while PassesOwn.never (pt_val (C8.pe_mt h_Tokens_is_sign hr (by decide) (pe_fld (pv 0) rfl) (pa_cons pe_str pa_nil))) (pss_cons (ps_expr (C8.pe_mt0 h_Tokens_advance hr (by decide) (pe_fld (pv 0) rfl))) (pss_cons (ps_set (i := 1) sc_Words_saying.nd rfl (Or.inl rfl) (pe_op op_add (pv 1) pe_int)) (pss_one (ps_if (pt_cmpR op_gt (pv 1) (C8.pe_gc rfl T.g_MAX_NOTS) (nomark _)) (pss_one ps_never) pss_nil))))) (pss_cons (ps_set (i := 2) sc_Words_saying.nd rfl (Or.inl rfl) (C8.pe_mt h_Tokens_one_of hr (by decide) (pe_fld (pv 0) rfl) (pa_cons (pe_tup (pa_cons pe_str (pa_cons pe_str (pa_cons pe_str pa_nil)))) pa_nil))) (pss_cons (ps_if (pt_cmpR op_eq (pv 2) pe_str (nomark _)) (pss_cons (ps_set (i := 3) sc_Words_saying.nd rfl (Or.inl rfl) (C8.pe_mt0 h_Words_road hr (by decide) (pv 0))) (pss_one (ps_set (i := 4) sc_Words_saying.nd rfl (Or.inl rfl) (pe_tup (pa_cons (pv 2) (pa_cons (pv 3) (pa_cons (C8.pe_mt0 h_Words_road hr (by decide) (pv 0)) pa_nil))))))) (pss_cons (ps_set (i := 5) sc_Words_saying.nd rfl (Or.inl rfl) (C8.pe_mt h_Tokens_number hr (by decide) (pe_fld (pv 0) rfl) (pa_cons (C8.pe_gc rfl T.g_MAX_COUNT) pa_nil))) (pss_one (ps_set (i := 4) sc_Words_saying.nd rfl (Or.inl rfl) (pe_tup (pa_cons (pv 2) (pa_cons (pv 5) (pa_cons (C8.pe_mt0 h_Words_question hr (by decide) (pv 0)) pa_nil)))))))) (pss_cons (ps_for PassesOwn.never rfl (pi_range1 (by rfl) T.b_range (pa_cons (pv 1) pa_nil)) (pg_name (i := 6) sc_Words_saying.nd rfl (.inl rfl)) (pss_one (ps_set (i := 4) sc_Words_saying.nd rfl (Or.inl rfl) (pe_tup (pa_cons pe_str (pa_cons (pv 4) pa_nil)))))) (pss_one (ps_ret (pv 4)))))))), ?_⟩
  show tSeq _ _ _ [some (.ref W), none, none, none, none, none, none] H
  obtain ⟨dx, hW, hpn⟩ := id hw
  obtain ⟨core, ws0, ecore, ews, hc1, hc2, hc3⟩ := saw_split hqw hqg
  have hkn : ∀ n, q.nots = n → n ≤ 8 := fun n hn => by omega
  subst ews
  generalize hkk : q.nots = kk at *
  obtain ⟨wd, tl, ew0, hwd⟩ : ∃ wd tl, ws0 = wd :: tl ∧ wd ∈ (["least", "most", "follow"] : List Str) := by
    cases hc1 with
    | least n h => exact ⟨_, _, rfl, by decide +kernel⟩
    | most n h => exact ⟨_, _, rfl, by decide +kernel⟩
    | follow a b => exact ⟨_, _, rfl, by decide +kernel⟩
    | no h => exact absurd hc2 (by simp [Sa.nots])
  have hwn : wd ≠ "not" := by
    intro z
    subst z
    exact absurd hwd (by decide +kernel)
  walk_at "st"
  rw [u_seq]
  refine loop_w (fun m σ H' => ∃ (D' : Hp) (n : Nat), σ = [some (.ref W), some (vN n), none, none, none, none, none] ∧ Same D D' ∧ TKs I K D' fr j Tk H' (List.replicate (kk - n) ("not" : Str) ++ ws0 ++ rest) ∧ n ≤ kk ∧ m = kk - n) _ ⟨D, 0, rfl, same_rfl, h, Nat.zero_le _, rfl⟩ ?_
  rintro m σ H3 ⟨D3, n, rfl, s3, h3, hn3, rfl⟩
  have w3 := h3.same gI _ _ (s3 _ _ hW)
  obtain ⟨dx3, z3, p3, t3, e3⟩ := h3.get gI
  walk_at "rd"
  refine ⟨_, _, _, w3, T.c_Words, T.n_Words_left, _, rfl, _, rfl, _, _, e3, rfl, I, D3, _, j, Tk, _, _, gI, rfl, h3, fun D4 H4 s4 h4 => ⟨_, rfl, ?_⟩⟩
  have s14 := same_tr s3 s4
  have w4 := h4.same gI _ _ (s14 _ _ hW)
  obtain ⟨dx4, z4, p4, t4, e4⟩ := h4.get gI
  by_cases hlt : n < kk
  · have er : List.replicate (kk - n) ("not" : Str) = ("not" : Str) :: List.replicate (kk - (n + 1)) ("not" : Str) := by
      rw [show kk - n = (kk - (n + 1)) + 1 by omega] <;> rfl
    rw [er] at h4 ⊢
    refine if_eq (show decide (("not" : Str) = "not") = true from decide_eq_true rfl) (stepW fun N hN => ?_)
    walk_at "st"
    refine ⟨_, _, _, w4, T.c_Words, T.n_Words_left, _, rfl, _, rfl, _, _, e4, rfl, I, D4, _, j, Tk, _, _, gI, rfl, h4, fun D5 H5 s5 h5 => ?_⟩
    walk_at "st"
    walk_at "st"
    rw [if_neg (by omega)]
    walk_at "rd"
    exact hN _ _ _ (show kk - (n + 1) < kk - n by omega) ⟨D5, n + 1, by rw [show ((n : Int) + 1) = ((n + 1 : Nat) : Int) from rfl], same_tr s14 s5, h5, by omega, rfl⟩
  · have hn4 : n = kk := by omega
    subst hn4
    rw [Nat.sub_self] at h4 ⊢
    have h4 : TKs I K D4 fr j Tk H4 (wd :: (tl ++ rest)) := by rw [ew0] at h4; exact h4
    refine if_ne (by rw [ew0]; exact decide_eq_false hwn) ?_
    walk_at "st"
    refine ⟨_, _, _, w4, T.c_Words, T.n_Words_left, _, rfl, _, rfl, _, _, e4, rfl, fun p5 n5 => ?_⟩
    obtain ⟨h5, s5⟩ := h4.new gI n5 (.tup [.str "least", .str "most", .str "follow"])
    refine ⟨I, _, fr, j, Tk, p5, ["least", "most", "follow"], wd, tl ++ rest, gI, rfl, h5, upd_same, hwd, by decide +kernel, by decide, fun D6 H6 s6 h6 => ?_⟩
    have s16 := same_tr s14 (same_tr s5 s6)
    have w6 := h6.same gI _ _ (s16 _ _ hW)
    have hw6 := hw.up s16
    obtain ⟨dx6, z6, p6, t6, e6⟩ := h6.get gI
    show tSeq _ _ _ _ _
    rw [u_seq]
    refine ts_cut (fun σ' H' => ∃ (D' : Hp) (v : V) (x3 x5 : Option V), σ' = [some (.ref W), some (vN n), some (.str wd), x3, some v, x5, none] ∧ Same D D' ∧ TKs I K D' fr j Tk H' rest ∧ At D' v core.d) (fun N hN => ?_) ?_
    · walk_at "rd"
      have mid : (∃ a b, core = .follow a b) ∨ ∃ (m : Nat) (q' : Qu) (w' : List Str), QuW names q' w' ∧ tl = num m :: w' ∧ wd ≠ "follow" ∧ core.d = .tuple [.str wd, iN m, q'.d] ∧ m ≤ 10 ^ 30 ∧ QuG names.length q' := by
        cases hc1 with
        | follow a b => exact .inl ⟨a, b, rfl⟩
        | least m hq0 => cases ew0; exact .inr ⟨m, _, _, hq0, rfl, by decide +kernel, rfl, hc3⟩
        | most m hq0 => cases ew0; exact .inr ⟨m, _, _, hq0, rfl, by decide +kernel, rfl, hc3⟩
        | no h => exact absurd hc2 (by simp [Sa.nots])
      rcases mid with ⟨a, b, rfl⟩ | ⟨m, q', w', hq', etl, hwf, hcd, hm30, hqg'⟩
      · cases hc1
        cases ew0
        rw [if_pos rfl]
        walk_at "st"
        refine ⟨_, _, w6, rfl, I, D6, fr, j, Tk, W, pn, names, net, a, _, gI, rfl, h6, hw6, hn, hc3.1, fun D7 H7 s7 h7 => ?_⟩
        have w7 := h7.same gI _ _ (s7 _ _ (s16 _ _ hW))
        walk_at "st"
        walk_at "st"
        refine ⟨_, _, w7, rfl, I, D7, fr, j, Tk, W, pn, names, net, b, _, gI, rfl, h7, hw6.up s7, hn, hc3.2, fun D8 H8 s8 h8 => ?_⟩
        intro p9 n9
        obtain ⟨h9, s9⟩ := h8.new gI n9 (.tup [.str "follow", vN a, vN b])
        exact hN _ _ ⟨_, _, _, _, rfl, same_tr s16 (same_tr s7 (same_tr s8 s9)), h9, .tup upd_same (.cons (.str _) (.cons (.int _) (.cons (.int _) .nil)))⟩
      · rw [if_neg hwf]
        subst etl
        walk_at "st"
        rw [show (V.int (10 ^ 30)) = vN (10 ^ 30) from congrArg V.int (by decide +kernel)]
        refine ⟨_, _, _, w6, T.c_Words, T.n_Words_left, _, rfl, _, rfl, _, _, e6, rfl, I, D6, fr, j, Tk, m, 10 ^ 30, _, gI, rfl, h6, counted_num m, hm30, hm30, fun D7 H7 s7 h7 => ?_⟩
        have w7 := h7.same gI _ _ (s7 _ _ (s16 _ _ hW))
        walk_at "st"
        walk_at "st"
        refine ⟨_, _, w7, rfl, I, D7, fr, j, Tk, W, pn, names, net, q', w', rest, gI, rfl, h7, hw6.up s7, hn, hq', hqg', hr2, fun D8 H8 v8 s8 h8 hv8 => ?_⟩
        intro p9 n9
        obtain ⟨h9, s9⟩ := h8.new gI n9 (.tup [.str wd, vN m, v8])
        refine hN _ _ ⟨_, _, _, _, rfl, same_tr s16 (same_tr s7 (same_tr s8 s9)), h9, ?_⟩
        rw [hcd]
        exact .tup upd_same (.cons (.str _) (.cons (.int _) (.cons (hv8.up s9) .nil)))
    · rintro σ' H7 ⟨D7, v, x3, x5, rfl, s7, h7, hv⟩
      walk_at "st"
      walk_at "st"
      refine ⟨by omega, by omega, ?_⟩
      rw [Int.toNat_natCast]
      refine loop_f walk_range (fun i σ H' => ∃ (D' : Hp) (v : V) (x3 x5 x6 : Option V), σ = [some (.ref W), some (vN n), some (.str wd), x3, some v, x5, x6] ∧ Same D D' ∧ TKs I K D' fr j Tk H' rest ∧ At D' v (wrap i core).d) ⟨D7, v, _, _, _, rfl, s7, h7, hv⟩ (fun _ _ _ _ _ => trivial) ?_ ?_
      · rintro i x σ H8 H9 hi ⟨D8, v, x3, x5, x6, rfl, s8, h8, hv⟩ ⟨rfl, rfl⟩ N hN
        walk_at "st"
        walk_at "st"
        intro p9 n9
        obtain ⟨h9, s9⟩ := h8.new gI n9 (.tup [.str "not", v])
        exact hN _ _ ⟨_, _, _, _, _, rfl, same_tr s8 s9, h9, .tup upd_same (.cons (.str _) (.cons (hv.up s9) .nil))⟩
      · rintro σ H8 ⟨D8, v, x3, x5, x6, rfl, s8, h8, hv⟩
        walk_at "st"
        walk_at "st"
        rw [← ecore] at hv
        exact k _ _ _ s8 h8 hv
end
/-! ### text P9 -/
def spWT (K : PySem.W.Frag) : Sp := fun vs H Q _ => ∃ (I : Hp → List (Addr × HO) → Hp → Prop) (D : Hp) (fr : List (Addr × HO)) (j : Nat) (T W pn : Addr) (names : List Str) (net : V) (n : Nat) (t : List Nat) (rest : List Str), Ground I ∧ vs = [.ref W] ∧ TKs I K D fr j T H (num n :: (":" : Str) :: (t.map (nmAt names) ++ rest)) ∧ WdAt K D W T pn names net ∧ NamesOk names ∧ n ≤ 10 ^ 30 ∧ (∀ i ∈ t, i < names.length) ∧ t ≠ [] ∧ t.length ≤ 1000 ∧ headB named rest = false ∧
  ∀ (D' H' : Hp) (v : V), Same D D' → TKs I K D' fr j T H' rest → At D' v (.tuple [tup1 t, iN n]) → Q v H'
def spWA (K : PySem.W.Frag) : Sp := fun vs H Q _ => ∃ (I : Hp → List (Addr × HO) → Hp → Prop) (D : Hp) (fr : List (Addr × HO)) (j : Nat) (T W pn : Addr) (names : List Str) (net : V) (a : As) (ws rest : List Str), Ground I ∧ vs = [.ref W] ∧ TKs I K D fr j T H (ws ++ rest) ∧ WdAt K D W T pn names net ∧ NamesOk names ∧ AsW names a ws ∧ AsG names.length a ∧ headB named rest = false ∧
  ∀ (D' H' : Hp) (v : V), Same D D' → TKs I K D' fr j T H' rest → At D' v a.d → Q v H'
section
variable {P : Program} {w : World} {K : PySem.W.Frag} {mg : Str → Option Value} {base : Heap}
theorem sc_Words_trip : FnScope ["self", "number"] ["self"] (defScope s_Words_trip) := ⟨rfl, rfl, rfl, by decide +kernel, rfl, by decide +kernel, by decide +kernel⟩
theorem c_Words_trip (T : Txt K mg) : C8.Met P w K mg base 9 (He.ga K "Words") "trip" (spWT K) [] := by
  have h_Words_roads : C8.Met P w K mg base 8 (He.ga K "Words") "roads" (spWRoads K) [] := c_Words_roads T
  have h_Tokens_need := c_Tokens_need (P := P) (w := w) (base := base) T
  have h_Tokens_number := c_Tokens_number (P := P) (w := w) (base := base) T
  refine met_mk T.m_Words_trip T.c_Words sc_Words_trip (fun _ _ _ _ _ _ us hl => match us, hl with | [_], _ => rfl) (fun vs H Q E h => ?_) (fun f cdv A outer s H vs Q E hr h => ?_)
  · obtain ⟨I, D, fr, j, Tk, W, pn, names, net, n, t, rest, gI, rfl, _⟩ := h
    rfl
  obtain ⟨I, D, fr, j, Tk, W, pn, names, net, n, t, rest, gI, rfl, h, hw, hn, hn30, ht, htne, htl, hr2, k⟩ := h
  refine ⟨_, (pss_cons (ps_set (i := 1) sc_Words_trip.nd rfl (Or.inl rfl) (C8.pe_mt h_Tokens_number hr (by decide) (pe_fld (pv 0) rfl) (pa_cons (C8.pe_gc rfl T.g_MAX_COUNT) pa_nil))) (pss_cons (ps_expr (C8.pe_mt h_Tokens_need hr (by decide) (pe_fld (pv 0) rfl) (pa_cons pe_str pa_nil))) (pss_one (ps_ret (pe_tup (pa_cons (pe_callTy call_tuple_ofN (by rfl) T.b_tuple boot_tuple (pa_cons (C8.pe_mt0 h_Words_roads hr (by decide) (pv 0)) pa_nil)) (pa_cons (pv 1) pa_nil))))))), ?_⟩
  show tSeq _ _ _ [some (.ref W), none] H
  obtain ⟨dx, hW, hpn⟩ := id hw
  have w0 := h.same gI _ _ hW
  obtain ⟨dx1, z, p, t1, e0⟩ := h.get gI
  walk_at "st"
  rw [show (V.int (10 ^ 30)) = vN (10 ^ 30) from congrArg V.int (by decide +kernel)]
  refine ⟨_, _, _, w0, T.c_Words, T.n_Words_left, _, rfl, _, rfl, _, _, e0, rfl, I, D, fr, j, Tk, n, 10 ^ 30, _, gI, rfl, h, counted_num n, hn30, hn30, fun D1 H1 s1 h1 => ?_⟩
  have w1 := h1.same gI _ _ (s1 _ _ hW)
  obtain ⟨dx2, z2, p2, t2, e1⟩ := h1.get gI
  walk_at "st"
  walk_at "st"
  refine ⟨_, _, _, w1, T.c_Words, T.n_Words_left, _, rfl, _, rfl, _, _, e1, rfl, I, D1, fr, j, Tk, ":", _, gI, rfl, h1, fun D2 H2 s2 h2 => ?_⟩
  have s12 := same_tr s1 s2
  have w2 := h2.same gI _ _ (s12 _ _ hW)
  walk_at "st"
  refine ⟨_, _, w2, rfl, I, D2, fr, j, Tk, W, pn, names, net, t, rest, gI, rfl, h2, hw.up s12, hn, ht, htne, htl, hr2, fun D3 H3 q3 s3 h3 hq3 => ?_⟩
  have hq30 := h3.same gI _ _ hq3
  walk_at "rd"
  refine ⟨_, .inl ⟨SqL.of hq30, fun p4 n4 => ?_⟩⟩
  obtain ⟨h4, s4⟩ := h3.new gI n4 (.tup (t.map vN))
  intro p5 n5
  obtain ⟨h5, s5⟩ := h4.new gI n5 (.tup [.ref p4, vN n])
  exact k _ _ _ (same_tr s12 (same_tr s3 (same_tr s4 s5))) h5 (.tup upd_same (.cons (.tup (s5 _ _ upd_same) (AtL.nats.mpr rfl)) (.cons (.int _) .nil)))
theorem sc_Words_ask : FnScope ["self", "word"] ["self"] (defScope s_Words_ask) := ⟨rfl, rfl, rfl, by decide +kernel, rfl, by decide +kernel, by decide +kernel⟩
theorem c_Words_ask (T : Txt K mg) : C8.Met P w K mg base 11 (He.ga K "Words") "ask" (spWA K) [] := by
  have h_Words_road : C8.Met P w K mg base 7 (He.ga K "Words") "road" (spWRoad K) [] := c_Words_road T
  have h_Words_question : C8.Met P w K mg base 9 (He.ga K "Words") "question" (spWQ K) [] := c_Words_question T
  have h_Words_saying : C8.Met P w K mg base 10 (He.ga K "Words") "saying" (spWS K) [] := c_Words_saying T
  have h_Tokens_one_of := c_Tokens_one_of (P := P) (w := w) (base := base) T
  refine met_mk T.m_Words_ask T.c_Words sc_Words_ask (fun _ _ _ _ _ _ us hl => match us, hl with | [_], _ => rfl) (fun vs H Q E h => ?_) (fun f cdv A outer s H vs Q E hr h => ?_)
  · obtain ⟨I, D, fr, j, Tk, W, pn, names, net, a, ws, rest, gI, rfl, _⟩ := h
    rfl
  obtain ⟨I, D, fr, j, Tk, W, pn, names, net, a, ws, rest, gI, rfl, h, hw, hn, haw, hag, hr2, k⟩ := h
  refine ⟨_, (pss_cons (ps_if (pt_cmpR op_eq (C8.pe_mt h_Tokens_one_of hr (by decide) (pe_fld (pv 0) rfl) (pa_cons (pe_tup (pa_cons pe_str (pa_cons pe_str pa_nil))) pa_nil)) pe_str (nomark _)) (pss_one (ps_ret (pe_tup (pa_cons pe_str (pa_cons (C8.pe_mt0 h_Words_saying hr (by decide) (pv 0)) pa_nil))))) pss_nil) (pss_cons (ps_set (i := 1) sc_Words_ask.nd rfl (Or.inl rfl) (C8.pe_mt h_Tokens_one_of hr (by decide) (pe_fld (pv 0) rfl) (pa_cons (pe_tup (pa_cons pe_str (pa_cons pe_str (pa_cons pe_str (pa_cons pe_str pa_nil))))) pa_nil))) (pss_cons (ps_if (pt_cmpR op_eq (pv 1) pe_str (nomark _)) (pss_one (ps_ret (pe_tup (pa_cons (pv 1) pa_nil)))) pss_nil) (pss_one (ps_ret (pe_tup (pa_cons (pv 1) (pa_cons (pe_ifExp (pt_cmpR op_eq (pv 1) pe_str (nomark _)) (C8.pe_mt0 h_Words_road hr (by decide) (pv 0)) (C8.pe_mt0 h_Words_question hr (by decide) (pv 0))) pa_nil)))))))), ?_⟩
  show tSeq _ _ _ [some (.ref W), none] H
  obtain ⟨dx, hW, hpn⟩ := id hw
  have w0 := h.same gI _ _ hW
  obtain ⟨dx1, z, p, t1, e0⟩ := h.get gI
  walk_at "st"
  refine ⟨_, _, _, w0, T.c_Words, T.n_Words_left, _, rfl, _, rfl, _, _, e0, rfl, fun p1 n1 => ?_⟩
  obtain ⟨h1, s1⟩ := h.new gI n1 (.tup [.str "ask", .str "say"])
  obtain ⟨wd, tl, ews, hwd⟩ : ∃ wd tl, ws = wd :: tl ∧ wd ∈ (["ask", "say"] : List Str) := by
    cases haw with
    | say h => exact ⟨_, _, rfl, by decide +kernel⟩
    | least h => exact ⟨_, _, rfl, by decide +kernel⟩
    | most h => exact ⟨_, _, rfl, by decide +kernel⟩
    | followers a => exact ⟨_, _, rfl, by decide +kernel⟩
    | sure => exact ⟨_, _, rfl, by decide +kernel⟩
  subst ews
  refine ⟨I, _, fr, j, Tk, p1, ["ask", "say"], wd, tl ++ rest, gI, rfl, h1, upd_same, hwd, by decide +kernel, by decide, fun D2 H2 s2 h2 => ?_⟩
  have s12 := same_tr s1 s2
  have w2 := h2.same gI _ _ (s12 _ _ hW)
  have hw2 := hw.up s12
  have mid : (∃ s', a = .say s' ∧ wd = "say" ∧ SaW names s' tl) ∨ (wd = "ask" ∧ ∃ w2 tl2, tl = w2 :: tl2 ∧ ((w2 = "sure" ∧ tl2 = [] ∧ a = .sure) ∨ (∃ i, w2 = "followers" ∧ tl2 = [nmAt names i] ∧ a = .followers i) ∨ ∃ q, (w2 = "least" ∨ w2 = "most") ∧ QuW names q tl2 ∧ QuG names.length q ∧ a.d = .tuple [.str w2, q.d])) := by
    cases haw with
    | say hq0 => exact .inl ⟨_, rfl, rfl, hq0⟩
    | least hq0 => exact .inr ⟨rfl, _, _, rfl, .inr (.inr ⟨_, .inl rfl, hq0, hag, rfl⟩)⟩
    | most hq0 => exact .inr ⟨rfl, _, _, rfl, .inr (.inr ⟨_, .inr rfl, hq0, hag, rfl⟩)⟩
    | followers i => exact .inr ⟨rfl, _, _, rfl, .inr (.inl ⟨i, rfl, rfl, rfl⟩)⟩
    | sure => exact .inr ⟨rfl, _, _, rfl, .inl ⟨rfl, rfl, rfl⟩⟩
  rcases mid with ⟨s', rfl, rfl, hs'⟩ | ⟨rfl, w2', tl2, rfl, hcase⟩
  · walk_at "rd"
    refine ⟨_, _, w2, rfl, I, D2, fr, j, Tk, W, pn, names, net, s', tl, rest, gI, rfl, h2, hw2, hn, hs', hag.1, hag.2, hr2, fun D3 H3 v3 s3 h3 hv3 => ?_⟩
    intro p4 n4
    obtain ⟨h4, s4⟩ := h3.new gI n4 (.tup [.str "say", v3])
    exact k _ _ _ (same_tr s12 (same_tr s3 s4)) h4 (.tup upd_same (.cons (.str _) (.cons (hv3.up s4) .nil)))
  · walk_at "rd"
    rw [if_neg (by decide +kernel)]
    obtain ⟨dx3, z3, p3, t3, e2⟩ := h2.get gI
    walk_at "st"
    refine ⟨_, _, _, w2, T.c_Words, T.n_Words_left, _, rfl, _, rfl, _, _, e2, rfl, fun p3 n3 => ?_⟩
    obtain ⟨h3, s3⟩ := h2.new gI n3 (.tup [.str "least", .str "most", .str "followers", .str "sure"])
    refine ⟨I, _, fr, j, Tk, p3, ["least", "most", "followers", "sure"], w2', tl2 ++ rest, gI, rfl, h3, upd_same, ?_, by decide +kernel, by decide, fun D4 H4 s4 h4 => ?_⟩
    · rcases hcase with ⟨rfl, _⟩ | ⟨i, rfl, _⟩ | ⟨q, rfl | rfl, _⟩ <;> decide +kernel
    have s14 := same_tr s12 (same_tr s3 s4)
    have w4 := h4.same gI _ _ (s14 _ _ hW)
    have hw4 := hw.up s14
    walk_at "st"
    walk_at "st"
    rcases hcase with ⟨rfl, rfl, rfl⟩ | ⟨i, rfl, rfl, rfl⟩ | ⟨q, hw2q, hq, hqg, hd⟩
    · rw [if_pos rfl]
      intro p5 n5
      obtain ⟨h5, s5⟩ := h4.new gI n5 (.tup [.str "sure"])
      exact k _ _ _ (same_tr s14 s5) h5 (.tup upd_same (.cons (.str _) .nil))
    · rw [if_neg (by decide +kernel)]
      walk_at "rd"
      refine ⟨_, _, w4, rfl, I, _, fr, j, Tk, W, pn, names, net, i, rest, gI, rfl, h4, hw4, hn, hag, fun D5 H5 s5 h5 => ?_⟩
      intro p6 n6
      obtain ⟨h6, s6⟩ := h5.new gI n6 (.tup [.str "followers", vN i])
      exact k _ _ _ (same_tr s14 (same_tr s5 s6)) h6 (.tup upd_same (.cons (.str _) (.cons (.int _) .nil)))
    · rw [if_neg (by rcases hw2q with rfl | rfl <;> decide +kernel)]
      walk_at "rd"
      rw [if_neg (by rcases hw2q with rfl | rfl <;> decide +kernel)]
      refine ⟨_, _, w4, rfl, I, _, fr, j, Tk, W, pn, names, net, q, tl2, rest, gI, rfl, h4, hw4, hn, hq, hqg, hr2, fun D5 H5 v5 s5 h5 hv5 => ?_⟩
      intro p6 n6
      obtain ⟨h6, s6⟩ := h5.new gI n6 (.tup [.str w2', v5])
      refine k _ _ _ (same_tr s14 (same_tr s5 s6)) h6 ?_
      rw [hd]
      exact .tup upd_same (.cons (.str _) (.cons (hv5.up s6) .nil))
end
/-! ### text Q1 -/
def spIsInt : Sp := fun vs H Q _ => ∃ i : Int, vs = [.int i] ∧ Q (.bl true) H
/-- a road's number of the net -/
def spIsRoad : Sp := fun vs H Q _ => ∃ (D : Hp) (p pr : Addr) (rx : List V) (many : Nat) (es : List (Nat × Nat)) (i : Nat), vs = [.ref p, vN i] ∧ Same D H ∧ NetAt D p pr rx many es ∧ i < es.length ∧ Q (.bl true) H
section
variable {P : Program} {w : World} {K : PySem.W.Frag} {mg : Str → Option Value} {base : Heap}
theorem sc_is_integer : FnScope ["value"] ["value"] (defScope s_is_integer) := ⟨rfl, rfl, rfl, by decide +kernel, rfl, by decide +kernel, by decide +kernel⟩
theorem c_is_integer (T : Txt K mg) : C8.Cal P w K mg base 1 "is_integer" spIsInt [] := by
  refine cal_mk T.d_is_integer sc_is_integer (fun _ _ _ _ _ _ us hl => match us, hl with | [_], _ => rfl) (fun vs H Q E h => ?_) (fun f cdv A outer s H vs Q E hr h => ?_)
  · obtain ⟨i, rfl, _⟩ := h
    rfl
  obtain ⟨i, rfl, k⟩ := h
  refine ⟨_, (pss_one (ps_ret (pe_and (pe_callB call_isi (by rfl) T.b_isinstance boot_isinstance (pa_cons (pv 0) (pa_cons (pe_bltn (v := .ty "int") (by rfl) T.b_int boot_int rfl) pa_nil))) (pe_one (pe_not (pe_callB call_isi (by rfl) T.b_isinstance boot_isinstance (pa_cons (pv 0) (pa_cons (pe_bltn (v := .ty "bool") (by rfl) T.b_bool boot_bool rfl) pa_nil)))))))), ?_⟩
  show tRet _ _ [some (.int i)] H
  walk_at "rd"
  refine ⟨_, _, .ty _, .base (.int i), true, kit_ty (by decide +kernel), ?_⟩
  rw [if_pos rfl]
  refine ⟨_, _, .ty _, .base (.int i), false, kit_ty (by decide +kernel), ?_⟩
  exact k
theorem sc_is_road : FnScope ["net", "value"] ["net", "value"] (defScope s_is_road) := ⟨rfl, rfl, rfl, by decide +kernel, rfl, by decide +kernel, by decide +kernel⟩
theorem c_is_road (T : Txt K mg) : C8.Cal P w K mg base 2 "is_road" spIsRoad [] := by
  have h_is_integer : C8.Cal P w K mg base 1 "is_integer" spIsInt [] := c_is_integer T
  refine cal_mk T.d_is_road sc_is_road (fun _ _ _ _ _ _ us hl => match us, hl with | [_, _], _ => rfl) (fun vs H Q E h => ?_) (fun f cdv A outer s H vs Q E hr h => ?_)
  · obtain ⟨D, p, pr, rx, many, es, i, rfl, _⟩ := h
    rfl
  obtain ⟨D, p, pr, rx, many, es, i, rfl, s0, hnet, hi, k⟩ := h
  refine ⟨_, (pss_one (ps_ret (pe_and (C8.pe_c h_is_integer hr (by decide) rfl (pa_cons (pv 1) pa_nil)) (pe_one (pe_chain op_le op_lt pe_int (pv 1) (pe_callB call_len_seq (by rfl) T.b_len PySem.boot_len (pa_cons (pe_ix ix_tup (pv 0) pe_int (fun _ _ => rfl)) pa_nil))))))), ?_⟩
  show tRet _ _ [some (.ref p), some (vN i)] H
  walk_at "rd"
  refine ⟨_, rfl, true, rfl, ?_⟩
  have hrl : rx.length = es.length := by rw [hnet.at_.len, List.length_map]
  rw [if_pos rfl, if_pos (by omega)]
  refine ⟨_, SqT.of (s0 _ _ hnet.net), _, rfl, _, rfl, _, .inr (SqT.of (s0 _ _ hnet.roads)), ?_⟩
  rw [decT (by omega)]
  exact k
end
/-! ### text Q2 -/
/-- a good way on the net: nothing is wrong with it -/
def spTripErr : Sp := fun vs H Q _ => ∃ (I : Hp → List (Addr × HO) → Hp → Prop) (D : Hp) (fr : List (Addr × HO)) (p pr pt : Addr) (rx : List V) (many : Nat) (es : List (Nat × Nat)) (t : List Nat), Ground I ∧ vs = [.ref p, .ref pt] ∧ I D fr H ∧ NetAt D p pr rx many es ∧ D pt = some (.tup (t.map vN)) ∧ t ≠ [] ∧ t.length ≤ 60 ∧ Path es 0 t (many - 1) ∧ 1 ≤ many ∧ es.length ≤ 1000 ∧
  ∀ (D' H' : Hp), Same D D' → I D' fr H' → Q .non H'
def spStrErr : Sp := fun vs H Q _ => ∃ (I : Hp → List (Addr × HO) → Hp → Prop) (D : Hp) (fr : List (Addr × HO)) (p pr pt : Addr) (rx : List V) (many : Nat) (es : List (Nat × Nat)) (t : List Nat), Ground I ∧ vs = [.ref p, .ref pt] ∧ I D fr H ∧ NetAt D p pr rx many es ∧ D pt = some (.tup (t.map vN)) ∧ Str8 es t ∧ t.length ≤ 1000 ∧ es.length ≤ 1000 ∧
  ∀ (D' H' : Hp), Same D D' → I D' fr H' → Q .non H'
theorem shaped_tup1 (t : List Nat) : SeqAt.shaped (tup1 t) = true := by
  unfold SeqAt.shaped tup1
  rw [Bool.and_eq_true]
  refine ⟨by simp only [PyData.canLay0]; exact lay_nats t, decide_eq_true ?_⟩
  simp only [PyData.depth, depth_nats]
  omega
theorem eqv_tup1 (t : List Nat) : PyData.eqv (tup1 t) (.tuple []) = t.isEmpty := by
  cases t <;> simp [tup1, PyData.eqv, PyData.eqvAll]
theorem Path.lt {α : Type} {es : List (α × α)} : ∀ {u v : α} {t : List Nat}, Path es u t v → ∀ i ∈ t, i < es.length
  | _, _, _, .nil _, i, h => absurd h (by simp)
  | _, _, _, .cons h p, i, hi => by
    rcases List.mem_cons.mp hi with rfl | hi
    · exact (List.getElem?_eq_some_iff.mp h).1
    · exact p.lt i hi
/-- the j-th road begins where the one before it ended -/
theorem Path.joint {α : Type} {es : List (α × α)} : ∀ {u v : α} {t : List Nat} {j a b : Nat} {x y x' y' : α}, Path es u t v → t[j]? = some a → t[j + 1]? = some b → es[a]? = some (x, y) → es[b]? = some (x', y') → x' = y
  | _, _, _, _, _, _, _, _, _, _, .nil _, h, _, _, _ => by simp at h
  | _, _, _, 0, a, b, x, y, x', y', .cons (t := t) h p, h1, h2, h3, h4 => by
    cases (Option.some.inj (show some _ = some a from h1))
    rw [h] at h3
    cases h3
    cases p with
    | nil => cases h2
    | cons h5 p =>
      cases (Option.some.inj (show some _ = some b from h2))
      rw [h5] at h4
      cases h4
      rfl
  | _, _, _, j + 1, _, _, _, _, _, _, .cons h p, h1, h2, h3, h4 => Path.joint (j := j) p h1 h2 h3 h4
section
variable {P : Program} {w : World} {K : PySem.W.Frag} {mg : Str → Option Value} {base : Heap}
theorem sc_trip_error : FnScope ["net", "value", "place", "road", "end"] ["net", "value"] (defScope s_trip_error) := ⟨rfl, rfl, rfl, by decide +kernel, rfl, by decide +kernel, by decide +kernel⟩
theorem c_trip_error (T : Txt K mg) : C8.Cal P w K mg base 3 "trip_error" spTripErr [] := by
  have h_is_road : C8.Cal P w K mg base 2 "is_road" spIsRoad [] := c_is_road T
  refine cal_mk T.d_trip_error sc_trip_error (fun _ _ _ _ _ _ us hl => match us, hl with | [_, _], _ => rfl) (fun vs H Q E h => ?_) (fun f cdv A outer s H vs Q E hr h => ?_)
  · obtain ⟨I, D, fr, p, pr, pt, rx, many, es, t, gI, rfl, _⟩ := h
    rfl
  obtain ⟨I, D, fr, p, pr, pt, rx, many, es, t, gI, rfl, h, hnet, hpt, htne, htl, hp, hmany, hel, k⟩ := h
  refine ⟨_, (pss_cons (ps_if (PW.pt (pw_or (pt_not (pt_val (pe_callB call_isi (by rfl) T.b_isinstance boot_isinstance (pa_cons (pv 1) (pa_cons (pe_bltn (v := .ty "tuple") (by rfl) T.b_tuple boot_tuple rfl) pa_nil))))) (pw_or1 (pt_not (pt_chain op_le op_le pe_int (pe_callB call_len_seq (by rfl) T.b_len PySem.boot_len (pa_cons (pv 1) pa_nil)) (C8.pe_gc rfl T.g_MAX_ROADS)))))) (pss_one (ps_ret pe_str)) pss_nil) (pss_cons (ps_for PassesOwn.never rfl (pi_enumT (by rfl) T.b_enumerate (pa_cons (pv 1) pa_nil)) (pg_tup rfl (pgs_cons (pg_name (i := 2) sc_trip_error.nd rfl (.inl rfl)) (pgs_cons (pg_name (i := 3) sc_trip_error.nd rfl (.inl rfl)) pgs_nil))) (pss_one (ps_if (pt_not (pt_val (C8.pe_c h_is_road hr (by decide) rfl (pa_cons (pv 0) (pa_cons (pv 3) pa_nil))))) (pss_one (ps_ret (pe_tup (pa_cons pe_str (pa_cons (pv 2) pa_nil))))) pss_nil))) (pss_cons (ps_set (i := 4) sc_trip_error.nd rfl (Or.inl rfl) pe_int) (pss_cons (ps_for PassesOwn.never rfl (pi_enumT (by rfl) T.b_enumerate (pa_cons (pv 1) pa_nil)) (pg_tup rfl (pgs_cons (pg_name (i := 2) sc_trip_error.nd rfl (.inl rfl)) (pgs_cons (pg_name (i := 3) sc_trip_error.nd rfl (.inl rfl)) pgs_nil))) (pss_cons (ps_if (pt_cmpR op_ne (pe_ix ix_tup (pe_ix ix_tup (pe_ix ix_tup (pv 0) pe_int (fun _ _ => rfl)) (pv 3) (fun _ _ => rfl)) pe_int (fun _ _ => rfl)) (pv 4) (nomark _)) (pss_one (ps_ret (pe_tup (pa_cons pe_str (pa_cons (pv 2) pa_nil))))) pss_nil) (pss_one (ps_set (i := 4) sc_trip_error.nd rfl (Or.inl rfl) (pe_ix ix_tup (pe_ix ix_tup (pe_ix ix_tup (pv 0) pe_int (fun _ _ => rfl)) (pv 3) (fun _ _ => rfl)) pe_int (fun _ _ => rfl)))))) (pss_one (ps_ret (pe_ifExp (pt_cmpR op_eq (pv 4) (pe_op op_sub (pe_ix ix_tup (pv 0) pe_int (fun _ _ => rfl)) pe_int) (nomark _)) pe_non pe_str))))))), ?_⟩
  show tSeq _ _ _ [some (.ref p), some (.ref pt), none, none, none] H
  have t0 := gI.same h _ _ hpt
  have hlt := hp.lt
  have hl1 := List.length_pos_iff.mpr htne
  walk_at "st"
  refine ⟨_, _, .ty _, .base (.tup t0), true, kit_ty (by decide +kernel), ?_⟩
  rw [if_neg (by decide)]
  refine ⟨_, .inr (SqT.of t0), ?_⟩
  rw [List.length_map, if_pos (by omega), if_pos (by omega)]
  walk_at "st"
  refine ⟨⟨_, SqT.of t0⟩, ?_⟩
  refine loop_f (walk_enumT (xs := t.map vN)) (fun i σ H' => ∃ (D' : Hp) (x2 x3 : Option V), σ = [some (.ref p), some (.ref pt), x2, x3, none] ∧ Same D D' ∧ I D' fr H') ⟨D, _, _, rfl, same_rfl, h⟩ (fun i σ H' _ hh => by
    obtain ⟨D', x2, x3, _, s, h⟩ := hh
    exact SqT.of (gI.same h _ _ (s _ _ hpt))) ?_ ?_
  · rintro i x σ H4 H5 hi ⟨D4, x2, x3, rfl, s4, h4⟩ ⟨Tp, a, b, rfl, hT, rfl, ha, hb⟩ N hN
    obtain ⟨h5, s5⟩ := gI.new (.tup [a, b]) h4 hT
    cases (Option.some.inj (show some _ = some a from ha))
    have hb : (t.map vN)[i]? = some b := hb
    rw [List.getElem?_map, Option.map_eq_some_iff] at hb
    obtain ⟨r, hr, rfl⟩ := hb
    walk_at "rd"
    refine ⟨_, SqT.of upd_same, rfl, _, _, rfl, _, _, rfl, rfl, ?_⟩
    walk_at "rd"
    refine ⟨_, p, pr, rx, many, es, r, rfl, gI.same h5, hnet.up (same_tr s4 s5), hlt r (List.mem_of_getElem? hr), true, rfl, ?_⟩
    rw [if_neg (by decide)]
    exact hN _ _ ⟨_, _, _, rfl, same_tr s4 s5, h5⟩
  rintro σ H4 ⟨D4, x2, x3, rfl, s4, h4⟩
  walk_at "st"
  walk_at "st"
  walk_at "st"
  have t4 := gI.same h4 _ _ (s4 _ _ hpt)
  refine ⟨⟨_, SqT.of t4⟩, ?_⟩
  refine loop_f (walk_enumT (xs := t.map vN)) (fun i σ H' => ∃ (D' : Hp) (x2 x3 : Option V) (u : Nat), σ = [some (.ref p), some (.ref pt), x2, x3, some (vN u)] ∧ Same D D' ∧ I D' fr H' ∧ Path es u (t.drop i) (many - 1)) ⟨D4, _, _, 0, rfl, s4, h4, hp⟩ (fun i σ H' _ hh => by
    obtain ⟨D', x2, x3, u, _, s, h, _⟩ := hh
    exact SqT.of (gI.same h _ _ (s _ _ hpt))) ?_ ?_
  · rintro i x σ H5 H6 hi ⟨D5, x2, x3, u, rfl, s5, h5, hu⟩ ⟨Tp, a, b, rfl, hT, rfl, ha, hb⟩ N hN
    obtain ⟨h6, s6⟩ := gI.new (.tup [a, b]) h5 hT
    cases (Option.some.inj (show some _ = some a from ha))
    have hb : (t.map vN)[i]? = some b := hb
    rw [List.getElem?_map, Option.map_eq_some_iff] at hb
    obtain ⟨r, hr, rfl⟩ := hb
    obtain ⟨hil, her⟩ := List.getElem?_eq_some_iff.mp hr
    rw [List.drop_eq_getElem_cons hil, her] at hu
    cases hu with
    | @cons _ _ _ _ m he hm =>
    have hnet6 := hnet.up (same_tr s5 s6)
    obtain ⟨g, hg, hgD⟩ := hnet6.get he
    have n6 := gI.same h6 _ _ hnet6.net
    have r6 := gI.same h6 _ _ hnet6.roads
    have g6 := gI.same h6 _ _ hgD
    walk_at "rd"
    refine ⟨_, SqT.of upd_same, rfl, _, _, rfl, _, _, rfl, rfl, ?_⟩
    walk_at "st"
    refine ⟨_, SqT.of n6, _, rfl, _, rfl, _, SqT.of r6, _, atI_of rfl hg, _, rfl, _, SqT.of g6, _, rfl, rfl, ?_⟩
    refine ite2 (fun _ => ?_) (fun e => absurd rfl e)
    refine ⟨_, SqT.of n6, _, rfl, _, rfl, _, SqT.of r6, _, atI_of rfl hg, _, rfl, _, SqT.of g6, _, rfl, ?_⟩
    exact hN _ _ ⟨_, _, _, m, rfl, same_tr s5 s6, h6, hm⟩
  rintro σ H5 ⟨D5, x2, x3, u, rfl, s5, h5, hu⟩
  rw [List.length_map, List.drop_length] at hu
  cases hu
  walk_at "st"
  walk_at "st"
  refine ⟨_, SqT.of (gI.same h5 _ _ (s5 _ _ hnet.net)), _, rfl, _, rfl, ite2 (fun _ => ?_) (fun e => absurd (by omega) e)⟩
  exact k _ _ s5 h5
theorem sc_stretch_error : FnScope ["net", "value", "place", "road"] ["net", "value"] (defScope s_stretch_error) := ⟨rfl, rfl, rfl, by decide +kernel, rfl, by decide +kernel, by decide +kernel⟩
theorem c_stretch_error (T : Txt K mg) : C8.Cal P w K mg base 3 "stretch_error" spStrErr [] := by
  have h_is_road : C8.Cal P w K mg base 2 "is_road" spIsRoad [] := c_is_road T
  refine cal_mk T.d_stretch_error sc_stretch_error (fun _ _ _ _ _ _ us hl => match us, hl with | [_, _], _ => rfl) (fun vs H Q E h => ?_) (fun f cdv A outer s H vs Q E hr h => ?_)
  · obtain ⟨I, D, fr, p, pr, pt, rx, many, es, t, gI, rfl, _⟩ := h
    rfl
  obtain ⟨I, D, fr, p, pr, pt, rx, many, es, t, gI, rfl, h, hnet, hpt, ⟨htne, u, v, hp⟩, htl, hel, k⟩ := h
  refine ⟨_, (pss_cons (ps_if (PW.pt (pw_or (pt_not (pt_val (pe_callB call_isi (by rfl) T.b_isinstance boot_isinstance (pa_cons (pv 1) (pa_cons (pe_bltn (v := .ty "tuple") (by rfl) T.b_tuple boot_tuple rfl) pa_nil))))) (pw_or1 (pt_cmpR (op_eqD hr.units) (pv 1) (pe_tup pa_nil) (nomark _))))) (pss_one (ps_ret pe_str)) pss_nil) (pss_cons (ps_for PassesOwn.never rfl (pi_enumT (by rfl) T.b_enumerate (pa_cons (pv 1) pa_nil)) (pg_tup rfl (pgs_cons (pg_name (i := 2) sc_stretch_error.nd rfl (.inl rfl)) (pgs_cons (pg_name (i := 3) sc_stretch_error.nd rfl (.inl rfl)) pgs_nil))) (pss_one (ps_if (pt_not (pt_val (C8.pe_c h_is_road hr (by decide) rfl (pa_cons (pv 0) (pa_cons (pv 3) pa_nil))))) (pss_one (ps_ret (pe_tup (pa_cons pe_str (pa_cons (pv 2) pa_nil))))) pss_nil))) (pss_cons (ps_for PassesOwn.never rfl (pi_range2 (by rfl) T.b_range (pa_cons pe_int (pa_cons (pe_callB call_len_seq (by rfl) T.b_len PySem.boot_len (pa_cons (pv 1) pa_nil)) pa_nil))) (pg_name (i := 2) sc_stretch_error.nd rfl (.inl rfl)) (pss_one (ps_if (pt_cmpR op_ne (pe_ix ix_tup (pe_ix ix_tup (pe_ix ix_tup (pv 0) pe_int (fun _ _ => rfl)) (pe_ix ix_tup (pv 1) (pv 2) (fun _ _ => rfl)) (fun _ _ => rfl)) pe_int (fun _ _ => rfl)) (pe_ix ix_tup (pe_ix ix_tup (pe_ix ix_tup (pv 0) pe_int (fun _ _ => rfl)) (pe_ix ix_tup (pv 1) (pe_op op_sub (pv 2) pe_int) (fun _ _ => rfl)) (fun _ _ => rfl)) pe_int (fun _ _ => rfl)) (nomark _)) (pss_one (ps_ret (pe_tup (pa_cons pe_str (pa_cons (pv 2) pa_nil))))) pss_nil))) (pss_one (ps_ret pe_non))))), ?_⟩
  show tSeq _ _ _ [some (.ref p), some (.ref pt), none, none] H
  have t0 := gI.same h _ _ hpt
  have hlt := hp.lt
  have hl1 := List.length_pos_iff.mpr htne
  walk_at "st"
  refine ⟨_, _, .ty _, .base (.tup t0), true, kit_ty (by decide +kernel), ?_⟩
  rw [if_neg (by decide)]
  intro p1 n1
  have h1 := gI.tmp (.tup []) h n1
  have t1 := gI.same h1 _ _ hpt
  refine ⟨_, .tup (SqT.of t1) (AtL.dp (gI.same h1) (AtL.nats.mpr rfl)), _, .tup (SqT.of upd_same) .nil, shaped_tup1 t, by decide, ?_⟩
  rw [show PyData.eqv (.tuple (t.map iN)) (.tuple []) = t.isEmpty from eqv_tup1 t, if_neg (by cases t with | nil => exact absurd rfl htne | cons a l => simp)]
  walk_at "st"
  refine ⟨⟨_, SqT.of t1⟩, ?_⟩
  refine loop_f (walk_enumT (xs := t.map vN)) (fun i σ H' => ∃ (D' : Hp) (x2 x3 : Option V), σ = [some (.ref p), some (.ref pt), x2, x3] ∧ Same D D' ∧ I D' fr H') ⟨D, _, _, rfl, same_rfl, h1⟩ (fun i σ H' _ hh => by
    obtain ⟨D', x2, x3, _, s, h⟩ := hh
    exact SqT.of (gI.same h _ _ (s _ _ hpt))) ?_ ?_
  · rintro i x σ H4 H5 hi ⟨D4, x2, x3, rfl, s4, h4⟩ ⟨Tp, a, b, rfl, hT, rfl, ha, hb⟩ N hN
    obtain ⟨h5, s5⟩ := gI.new (.tup [a, b]) h4 hT
    cases (Option.some.inj (show some _ = some a from ha))
    have hb : (t.map vN)[i]? = some b := hb
    rw [List.getElem?_map, Option.map_eq_some_iff] at hb
    obtain ⟨r, hr, rfl⟩ := hb
    walk_at "rd"
    refine ⟨_, SqT.of upd_same, rfl, _, _, rfl, _, _, rfl, rfl, ?_⟩
    walk_at "rd"
    refine ⟨_, p, pr, rx, many, es, r, rfl, gI.same h5, hnet.up (same_tr s4 s5), hlt r (List.mem_of_getElem? hr), true, rfl, ?_⟩
    rw [if_neg (by decide)]
    exact hN _ _ ⟨_, _, _, rfl, same_tr s4 s5, h5⟩
  rintro σ H4 ⟨D4, x2, x3, rfl, s4, h4⟩
  have t4 := gI.same h4 _ _ (s4 _ _ hpt)
  walk_at "st"
  walk_at "st"
  refine ⟨_, .inr (SqT.of t4), ?_⟩
  rw [List.length_map]
  refine ⟨by omega, by omega, by omega, by omega, ?_⟩
  refine loop_f walk_range (fun i σ H' => ∃ (x2 x3 : Option V), σ = [some (.ref p), some (.ref pt), x2, x3] ∧ H' = H4) ⟨_, _, rfl, rfl⟩ (fun _ _ _ _ _ => trivial) ?_ ?_
  · rintro i x σ H5 H6 hi ⟨x2, x3, rfl, rfl⟩ ⟨rfl, rfl⟩ N hN
    have hnet4 := hnet.up s4
    have n4 := gI.same h4 _ _ hnet4.net
    have r4 := gI.same h4 _ _ hnet4.roads
    obtain ⟨a, ha⟩ : ∃ a, t[i]? = some a := ⟨_, List.getElem?_eq_getElem (by omega)⟩
    obtain ⟨b, hb⟩ : ∃ b, t[i + 1]? = some b := ⟨_, List.getElem?_eq_getElem (by omega)⟩
    obtain ⟨ea, hea⟩ : ∃ e, es[a]? = some e := ⟨_, List.getElem?_eq_getElem (hlt a (List.mem_of_getElem? ha))⟩
    obtain ⟨eb, heb⟩ : ∃ e, es[b]? = some e := ⟨_, List.getElem?_eq_getElem (hlt b (List.mem_of_getElem? hb))⟩
    have hj : eb.1 = ea.2 := hp.joint ha hb hea heb
    obtain ⟨ga, hga, hgaD⟩ := hnet4.get hea
    obtain ⟨gb, hgb, hgbD⟩ := hnet4.get heb
    have ga4 := gI.same h4 _ _ hgaD
    have gb4 := gI.same h4 _ _ hgbD
    walk_at "rd"
    have ja : atI (t.map vN) ((1 : Int) + (i : Int) - 1) = some (vN a) := atI_of (n := i) (by omega) (by rw [List.getElem?_map, ha] <;> rfl)
    have jb : atI (t.map vN) ((1 : Int) + (i : Int)) = some (vN b) := atI_of (n := i + 1) (by omega) (by rw [List.getElem?_map, hb] <;> rfl)
    refine ⟨_, SqT.of n4, _, rfl, _, SqT.of t4, _, jb, _, rfl, _, _, rfl, SqT.of r4, _, atI_of rfl hgb, _, rfl, _, SqT.of gb4, _, rfl, _, SqT.of n4, _, rfl, _, SqT.of t4, _, ja, _, rfl, _, _, rfl, SqT.of r4, _, atI_of rfl hga, _, rfl, _, SqT.of ga4, _, rfl, rfl, ?_⟩
    refine ite2 (fun _ => ?_) (fun e => absurd (by rw [hj]) e)
    exact hN _ _ ⟨_, _, rfl, rfl⟩
  · rintro σ H5 ⟨x2, x3, rfl, rfl⟩
    walk_at "st"
    walk_at "st"
    exact k _ _ s4 h4
end
/-! ### text Q3 -/
theorem walk_ztt {K : PySem.W.Frag} {a b : Addr} {xs ys : List V} {n : Nat} (hn : n = min xs.length ys.length) : Walk (RZ.ItzT K a b) n (fun H => SqT K H a xs ∧ SqT K H b ys) (YPair (fun i => xs[i]?) (fun i => ys[i]?)) := by
  subst hn
  refine ⟨fun i _ hi q => ⟨xs, ys, xs[i]'(by omega), ys[i]'(by omega), q.1, q.2, by simp [show i < xs.length by omega], by simp [show i < ys.length by omega]⟩, fun _ q => ⟨xs, ys, q.1, q.2, by omega⟩, fun i H v H' _ q y => ?_⟩
  obtain ⟨T, x, y, h1, h2, h3, h4, h5⟩ := y
  exact ⟨T, x, y, h1, h2, h3, h4 xs q.1, h5 ys q.2⟩
theorem AtL.bools {D : Hp} : ∀ {vs : List V} {bs : List Bool}, AtL D vs (bs.map PyData.bool) → vs = bs.map V.bl
  | [], [], _ => rfl
  | v :: vs, b :: bs, h => by
    cases h with
    | cons h1 h2 =>
      cases h1
      rw [AtL.bools h2] <;> rfl
  | [], b :: bs, h => by cases h
  | v :: vs, [], h => by cases h
def spMarks : Sp := fun vs H Q _ => ∃ (I : Hp → List (Addr × HO) → Hp → Prop) (D : Hp) (fr : List (Addr × HO)) (p pr pt : Addr) (rx : List V) (many : Nat) (es : List (Nat × Nat)) (t : List Nat), Ground I ∧ vs = [.ref p, .ref pt] ∧ I D fr H ∧ NetAt D p pr rx many es ∧ D pt = some (.tup (t.map vN)) ∧ t ≠ [] ∧ (∀ i ∈ t, i < es.length) ∧ t.length ≤ 1000 ∧ t.Pairwise (· < ·) ∧
  ∀ (D' H' : Hp), Same D D' → I D' fr H' → Q (.bl true) H'
def spQuErr : Sp := fun vs H Q _ => ∃ (I : Hp → List (Addr × HO) → Hp → Prop) (D : Hp) (fr : List (Addr × HO)) (p pr : Addr) (x : V) (rx : List V) (many : Nat) (es : List (Nat × Nat)) (q : Qu), Ground I ∧ vs = [.ref p, x] ∧ I D fr H ∧ NetAt D p pr rx many es ∧ At D x q.d ∧ QuOk es q ∧ QuG es.length q ∧ es.length ≤ 1000 ∧
  ∀ (D' H' : Hp), Same D D' → I D' fr H' → Q .non H'
section
variable {P : Program} {w : World} {K : PySem.W.Frag} {mg : Str → Option Value} {base : Heap}
theorem sc_are_marks : FnScope ["net", "value", "item", "one", "other"] ["net", "value"] (defScope s_are_marks) := ⟨rfl, rfl, rfl, by decide +kernel, rfl, by decide +kernel, by decide +kernel⟩
theorem c_are_marks (T : Txt K mg) : C8.Cal P w K mg base 3 "are_marks" spMarks [] := by
  have h_is_road : C8.Cal P w K mg base 2 "is_road" spIsRoad [] := c_is_road T
  refine cal_mk T.d_are_marks sc_are_marks (fun _ _ _ _ _ _ us hl => match us, hl with | [_, _], _ => rfl) (fun vs H Q E h => ?_) (fun f cdv A outer s H vs Q E hr h => ?_)
  · obtain ⟨I, D, fr, p, pr, pt, rx, many, es, t, gI, rfl, _⟩ := h
    rfl
  obtain ⟨I, D, fr, p, pr, pt, rx, many, es, t, gI, rfl, h, hnet, hpt, htne, hlt, htl, hpw, k⟩ := h
  refine ⟨_, (pss_cons (ps_if (PW.pt (pw_or (pt_not (pt_val (pe_callB call_isi (by rfl) T.b_isinstance boot_isinstance (pa_cons (pv 1) (pa_cons (pe_bltn (v := .ty "tuple") (by rfl) T.b_tuple boot_tuple rfl) pa_nil))))) (pw_or (pt_cmpR (op_eqD hr.units) (pv 1) (pe_tup pa_nil) (nomark _)) (pw_or1 (pt_not (pt_val (pe_callB (cr_all rfl) (by rfl) T.b_all boot_all (pa_cons (pe_lc (g := _) (tt := tYes) (te := _) (own := [("item", 2)]) rfl sc_are_marks.nd (pi_tup (pv 1)) (blkOk_by (by kernel_rfl)) (fun _ _ _ _ _ => (pg_name (i := 2) sc_are_marks.nd rfl (.inl rfl))) (fun _ _ _ _ _ => pts_nil) (fun _ _ _ _ _ => (C8.pe_c h_is_road hr (by decide) rfl (pa_cons (pv 0) (pa_cons (pv 2) pa_nil))))) pa_nil)))))))) (pss_one (ps_ret pe_bl)) pss_nil) (pss_one (ps_ret (pe_callB (cr_all rfl) (by rfl) T.b_all boot_all (pa_cons (pe_lc (g := (gTup K 2 _)) (tt := tYes) (te := _) (own := [("one", 3), ("other", 4)]) rfl sc_are_marks.nd (RZ.pi_zipA (by rfl) T.b_zip (pa_cons (pv 1) (pa_cons (pe_slice sl_tupA (pv 1) (po_some pe_int) po_none) pa_nil))) (blkOk_by (by kernel_rfl)) (fun _ _ _ _ _ => (pg_tup rfl (pgs_cons (pg_name (i := 3) sc_are_marks.nd rfl (.inl rfl)) (pgs_cons (pg_name (i := 4) sc_are_marks.nd rfl (.inl rfl)) pgs_nil)))) (fun _ _ _ _ _ => pts_nil) (fun _ _ _ _ _ => (pe_cmpR op_lt (pv 3) (pv 4) (nomark _)))) pa_nil))))), ?_⟩
  show tSeq _ _ _ [some (.ref p), some (.ref pt), none, none, none] H
  have t0 := gI.same h _ _ hpt
  have hl1 := List.length_pos_iff.mpr htne
  walk_at "st"
  refine ⟨_, _, .ty _, .base (.tup t0), true, kit_ty (by decide +kernel), ?_⟩
  rw [if_neg (by decide)]
  intro p1 n1
  have h1 := gI.tmp (.tup []) h n1
  have t1 := gI.same h1 _ _ hpt
  refine ⟨_, .tup (SqT.of t1) (AtL.dp (gI.same h1) (AtL.nats.mpr rfl)), _, .tup (SqT.of upd_same) .nil, shaped_tup1 t, by decide, ?_⟩
  rw [show PyData.eqv (.tuple (t.map iN)) (.tuple []) = t.isEmpty from eqv_tup1 t, if_neg (by cases t with | nil => exact absurd rfl htne | cons a l => simp)]
  refine ⟨⟨_, SqT.of t1⟩, ?_⟩
  refine gathE gI (src_tup (enc := iN) gI (.inl hpt) (AtL.nats.mpr rfl)) h1 (fun _ => PyData.bool true) (by omega) ?_ ?_
  · intro j y i D5 q5 H5 hi hy s5 h5 My Mn myes
    obtain rfl := hy.int_is
    walk_at "rd"
    exact ⟨_, p, pr, rx, many, es, i, rfl, gI.same h5, hnet.up s5, hlt i (List.mem_of_getElem? hi), myes _ _ _ same_rfl h5 (.bl true)⟩
  intro D2 H2 v2 s2 h2 hv2
  obtain ⟨p2, x2, rfl, hp2, hx2⟩ := hv2.lst_is
  have e2 : x2 = (t.map fun _ => true).map V.bl := AtL.bools (by rw [List.map_map]; exact hx2)
  subst e2
  refine ⟨_, rfl, _, SqL.of (gI.same h2 _ _ hp2), ?_⟩
  rw [if_neg (by simp)]
  have t2 := gI.same h2 _ _ (s2 _ _ hpt)
  refine ⟨_, SqT.of t2, fun z => absurd z.1 (by rw [List.length_map, show (some 1 : Option Int) = some ((1 : Nat) : Int) from rfl, HT.sIx_nat]; omega), fun _ p3 n3 => ?_⟩
  rw [show cutV (t.map vN) (some 1) none = (t.map vN).drop 1 from cutV_from (k := 1), ← List.map_drop]
  obtain ⟨h3, s3⟩ := gI.new (.tup ((t.drop 1).map vN)) h2 n3
  have t3 := same_tr s2 s3
  have u3 : upd D2 p3 (.tup ((t.drop 1).map vN)) p3 = some (.tup ((t.drop 1).map vN)) := upd_same
  generalize upd D2 p3 (.tup ((t.drop 1).map vN)) = D3 at *
  refine ⟨_, _, .inr ⟨SqT.of (gI.same h3 _ _ (t3 _ _ hpt)), SqT.of (gI.same h3 _ _ u3), ?_⟩⟩
  refine gath gI (walk_ztt (n := t.length - 1) (xs := t.map vN) (ys := (t.drop 1).map vN) (by rw [List.length_map, List.length_map, List.length_drop]; omega)) h3 (by omega) (fun i ds => ds = (List.range i).map fun _ => PyData.bool true) rfl (fun i ds _ hd => by rw [hd, List.length_map, List.length_range]; exact Nat.le_refl _) (fun D' H' q s hh => ⟨SqT.of (gI.same hh _ _ (s _ _ (t3 _ _ hpt))), SqT.of (gI.same hh _ _ (s _ _ u3))⟩) ?_ ?_
  · rintro i x D4 q4 H4 H5 ds hi rfl s4 h4 ⟨Tp, va, vb, rfl, hT, rfl, ha0, hb0⟩ Ny Nn hyes hno
    obtain ⟨h5, s5⟩ := gI.new (.tup [va, vb]) h4 hT
    obtain ⟨a, ha, eva⟩ := Option.map_eq_some_iff.mp ((List.getElem?_map (f := vN) (l := t) (i := i)).symm.trans ha0)
    obtain ⟨b, hb, evb⟩ := Option.map_eq_some_iff.mp ((List.getElem?_map (f := vN) (l := t.drop 1) (i := i)).symm.trans hb0)
    subst eva evb
    rw [List.getElem?_drop, Nat.add_comm] at hb
    obtain ⟨la, ea⟩ := List.getElem?_eq_some_iff.mp ha
    obtain ⟨lb, eb⟩ := List.getElem?_eq_some_iff.mp hb
    have hab := List.pairwise_iff_getElem.mp hpw i (i + 1) la lb (by omega)
    rw [ea, eb] at hab
    walk_at "rd"
    refine ⟨_, SqT.of upd_same, rfl, _, _, rfl, _, _, rfl, rfl, ?_⟩
    walk_at "rd"
    rw [show decide ((a : Int) < (b : Int)) = true from decide_eq_true (by omega)]
    exact hyes _ _ _ _ s5 h5 (.bl true) (by rw [List.range_succ, List.map_append] <;> rfl)
  · rintro D4 H4 q4 ws ds s4 h4 aw rfl
    obtain ⟨h5, s5⟩ := gI.fix h4
    have e4 : ws = ((List.range (t.length - 1)).map fun _ => true).map V.bl := AtL.bools (by rw [List.map_map]; exact aw)
    subst e4
    refine ⟨_, rfl, _, SqL.of (gI.same h5 _ _ upd_same), ?_⟩
    rw [show (((List.range (t.length - 1)).map fun _ => true).all id) = true by simp]
    exact k _ _ (same_tr t3 (same_tr s4 s5)) h5
theorem sc_question_error : FnScope ["net", "value", "word", "many", "error"] ["net", "value"] (defScope s_question_error) := ⟨rfl, rfl, rfl, by decide +kernel, rfl, by decide +kernel, by decide +kernel⟩
theorem c_question_error (T : Txt K mg) : C8.Cal P w K mg base 4 "question_error" spQuErr [] := by
  have h_is_road : C8.Cal P w K mg base 2 "is_road" spIsRoad [] := c_is_road T
  have h_are_marks : C8.Cal P w K mg base 3 "are_marks" spMarks [] := c_are_marks T
  have h_stretch_error : C8.Cal P w K mg base 3 "stretch_error" spStrErr [] := c_stretch_error T
  refine cal_mk T.d_question_error sc_question_error (fun _ _ _ _ _ _ us hl => match us, hl with | [_, _], _ => rfl) (fun vs H Q E h => ?_) (fun f cdv A outer s H vs Q E hr h => ?_)
  · obtain ⟨I, D, fr, p, pr, x, rx, many, es, q, gI, rfl, _⟩ := h
    rfl
  obtain ⟨I, D, fr, p, pr, x, rx, many, es, q, gI, rfl, h, hnet, hx, hq, hqg, hel, k⟩ := h
  refine ⟨_, (pss_cons (ps_if (PW.pt (pw_or (pt_not (pt_val (pe_callB call_isi (by rfl) T.b_isinstance boot_isinstance (pa_cons (pv 1) (pa_cons (pe_bltn (v := .ty "tuple") (by rfl) T.b_tuple boot_tuple rfl) pa_nil))))) (pw_or (pt_cmpR op_eq (pe_callB call_len_seq (by rfl) T.b_len PySem.boot_len (pa_cons (pv 1) pa_nil)) pe_int (nomark _)) (pw_or1 (pt_not (pt_val (pe_callB call_isi (by rfl) T.b_isinstance boot_isinstance (pa_cons (pe_ix ix_tup (pv 1) pe_int (fun _ _ => rfl)) (pa_cons (pe_bltn (v := .ty "str") (by rfl) T.b_str boot_str rfl) pa_nil))))))))) (pss_one (ps_ret pe_str)) pss_nil) (pss_cons (ps_par (i := 2) (j := 3) rfl sc_question_error.nd rfl rfl (by decide) rfl rfl (pa_cons (pe_ix ix_tup (pv 1) pe_int (fun _ _ => rfl)) (pa_cons (pe_callB call_len_seq (by rfl) T.b_len PySem.boot_len (pa_cons (pv 1) pa_nil)) pa_nil)) (by rfl)) (pss_cons (ps_if (PW.pt (pw_or (pt_cmpR op_notIn_seq (pv 2) (pe_tup (pa_cons pe_str (pa_cons pe_str (pa_cons pe_str pa_nil)))) (by rfl)) (pw_or1 (pt_cmpR op_ne (pv 3) (pe_ifExp (pt_cmpR op_eq (pv 2) pe_str (nomark _)) pe_int pe_int) (nomark _))))) (pss_one (ps_ret pe_str)) pss_nil) (pss_cons (ps_if (pt_cmpR op_eq (pv 2) pe_str (nomark _)) (pss_one (ps_ret (pe_ifExp (PW.pt (pw_and (pt_val (C8.pe_c h_is_road hr (by decide) rfl (pa_cons (pv 0) (pa_cons (pe_ix ix_tup (pv 1) pe_int (fun _ _ => rfl)) pa_nil)))) (pw_and1 (pt_val (C8.pe_c h_is_road hr (by decide) rfl (pa_cons (pv 0) (pa_cons (pe_ix ix_tup (pv 1) pe_int (fun _ _ => rfl)) pa_nil))))))) pe_non pe_str))) pss_nil) (pss_cons (ps_if (pt_cmpR op_eq (pv 2) pe_str (nomark _)) (pss_one (ps_ret (pe_ifExp (pt_val (C8.pe_c h_are_marks hr (by decide) rfl (pa_cons (pv 0) (pa_cons (pe_ix ix_tup (pv 1) pe_int (fun _ _ => rfl)) pa_nil)))) pe_non pe_str))) pss_nil) (pss_cons (ps_set (i := 4) sc_question_error.nd rfl (Or.inl rfl) (C8.pe_c h_stretch_error hr (by decide) rfl (pa_cons (pv 0) (pa_cons (pe_ix ix_tup (pv 1) pe_int (fun _ _ => rfl)) pa_nil)))) (pss_one (ps_ret (pe_ifExp (pt_cmpR op_isN (pv 4) pe_non (nomark _)) pe_non (pe_tup (pa_cons pe_str (pa_cons (pv 4) pa_nil)))))))))))), ?_⟩
  show tSeq _ _ _ [some (.ref p), some x, none, none, none] H
  cases q with
  | both a b =>
    obtain ⟨c, u, v, z, rfl, hc, hu, hv, hz⟩ := tu3_at hx
    rw [hu.str_is, hv.int_is, hz.int_is] at hc
    have hc0 := gI.same h _ _ hc
    walk_at "st"
    refine ⟨_, _, .ty _, .base (.tup hc0), true, kit_ty (by decide +kernel), ?_⟩
    rw [if_neg (by decide)]
    refine ⟨_, .inr (SqT.of hc0), ?_⟩
    rw [if_neg (by show ¬ ((3 : Nat) : Int) = 0; decide)]
    refine ⟨_, SqT.of hc0, _, rfl, _, _, .ty _, .base (.str _), true, kit_ty (by decide +kernel), ?_⟩
    rw [if_neg (by decide)]
    walk_at "st"
    refine ⟨_, SqT.of hc0, _, rfl, _, .inr (SqT.of hc0), ?_⟩
    walk_at "st"
    intro p1 n1
    have h1 := gI.tmp (.tup [.str "along", .str "touch", .str "both"]) h n1
    have hc1 := gI.same h1 _ _ hc
    refine ⟨_, .inr (SqT.of upd_same), rfl, ?_⟩
    rw [show inV (.str "both") [.str "along", .str "touch", .str "both"] = true by decide +kernel]
    walk_at "st"
    rw [if_neg (by decide), if_pos (by show ((3 : Nat) : Int) = 3; rfl)]
    cases hq with
    | both ha hb =>
      refine ⟨_, SqT.of hc1, _, rfl, D, p, pr, rx, many, es, a, rfl, gI.same h1, hnet, ha, true, rfl, ?_⟩
      rw [if_pos rfl]
      refine ⟨_, SqT.of hc1, _, rfl, D, p, pr, rx, many, es, b, rfl, gI.same h1, hnet, hb, true, rfl, ?_⟩
      rw [if_pos rfl]
      exact k _ _ same_rfl h1
  | touch t =>
    obtain ⟨c, u, v, rfl, hc, hu, hv⟩ := tu2_at hx
    obtain ⟨e, rfl, he⟩ := t1_at hv
    rw [hu.str_is] at hc
    have hc0 := gI.same h _ _ hc
    walk_at "st"
    refine ⟨_, _, .ty _, .base (.tup hc0), true, kit_ty (by decide +kernel), ?_⟩
    rw [if_neg (by decide)]
    refine ⟨_, .inr (SqT.of hc0), ?_⟩
    rw [if_neg (by show ¬ ((2 : Nat) : Int) = 0; decide)]
    refine ⟨_, SqT.of hc0, _, rfl, _, _, .ty _, .base (.str _), true, kit_ty (by decide +kernel), ?_⟩
    rw [if_neg (by decide)]
    walk_at "st"
    refine ⟨_, SqT.of hc0, _, rfl, _, .inr (SqT.of hc0), ?_⟩
    walk_at "st"
    intro p1 n1
    have h1 := gI.tmp (.tup [.str "along", .str "touch", .str "both"]) h n1
    have hc1 := gI.same h1 _ _ hc
    refine ⟨_, .inr (SqT.of upd_same), rfl, ?_⟩
    rw [show inV (.str "touch") [.str "along", .str "touch", .str "both"] = true by decide +kernel]
    walk_at "st"
    rw [if_neg (by decide), if_neg (by decide +kernel), if_pos (by show ((2 : Nat) : Int) = 2; rfl), if_neg (by decide +kernel)]
    walk_at "st"
    cases hq with
    | touch h1' h2' h3' =>
      refine ⟨_, SqT.of hc1, _, rfl, I, D, fr, p, pr, e, rx, many, es, t, gI, rfl, h1, hnet, he, h1', h2', hqg.2.2.1, h3', fun D2 H2 s2 h2 => ⟨true, rfl, ?_⟩⟩
      rw [if_pos rfl]
      exact k _ _ s2 h2
  | along t =>
    obtain ⟨c, u, v, rfl, hc, hu, hv⟩ := tu2_at hx
    obtain ⟨e, rfl, he⟩ := t1_at hv
    rw [hu.str_is] at hc
    have hc0 := gI.same h _ _ hc
    walk_at "st"
    refine ⟨_, _, .ty _, .base (.tup hc0), true, kit_ty (by decide +kernel), ?_⟩
    rw [if_neg (by decide)]
    refine ⟨_, .inr (SqT.of hc0), ?_⟩
    rw [if_neg (by show ¬ ((2 : Nat) : Int) = 0; decide)]
    refine ⟨_, SqT.of hc0, _, rfl, _, _, .ty _, .base (.str _), true, kit_ty (by decide +kernel), ?_⟩
    rw [if_neg (by decide)]
    walk_at "st"
    refine ⟨_, SqT.of hc0, _, rfl, _, .inr (SqT.of hc0), ?_⟩
    walk_at "st"
    intro p1 n1
    have h1 := gI.tmp (.tup [.str "along", .str "touch", .str "both"]) h n1
    have hc1 := gI.same h1 _ _ hc
    refine ⟨_, .inr (SqT.of upd_same), rfl, ?_⟩
    rw [show inV (.str "along") [.str "along", .str "touch", .str "both"] = true by decide +kernel]
    walk_at "st"
    rw [if_neg (by decide), if_neg (by decide +kernel), if_pos (by show ((2 : Nat) : Int) = 2; rfl), if_neg (by decide +kernel)]
    walk_at "st"
    rw [if_neg (by decide +kernel)]
    walk_at "st"
    cases hq with
    | along h1' h2' =>
      refine ⟨_, SqT.of hc1, _, rfl, I, D, fr, p, pr, e, rx, many, es, t, gI, rfl, h1, hnet, he, h1', by omega, hel, fun D2 H2 s2 h2 => ?_⟩
      walk_at "st"
      walk_at "st"
      exact k _ _ s2 h2
end
/-! ### text Q4 -/
def saQ : Sa → Option Qu
  | .least _ q => some q
  | .most _ q => some q
  | .follow _ _ => none
  | .no s => saQ s
def asQ : As → Option Qu
  | .least q => some q
  | .most q => some q
  | .followers _ => none
  | .sure => none
  | .say s => saQ s
def QAt (D : Hp) (v : V) : Option Qu → Prop
  | none => v = .non
  | some q => At D v q.d ∧ v ≠ .non
theorem Qu.ne_non {D : Hp} {v : V} {q : Qu} (h : At D v q.d) : v ≠ .non := by
  intro z
  subst z
  cases q <;> cases h
def spAskedQ : Sp := fun vs H Q _ => ∃ (I : Hp → List (Addr × HO) → Hp → Prop) (D : Hp) (fr : List (Addr × HO)) (x : V) (a : As), Ground I ∧ vs = [x] ∧ I D fr H ∧ At D x a.d ∧ (∀ s, a = .say s → s.nots ≤ 8) ∧
  ∀ (D' H' : Hp) (v : V), Same D D' → I D' fr H' → QAt D' v (asQ a) → Q v H'
def spNeedQ : Sp := fun vs H Q _ => ∃ (I : Hp → List (Addr × HO) → Hp → Prop) (D : Hp) (fr : List (Addr × HO)) (p pr : Addr) (x : V) (rx : List V) (many : Nat) (es : List (Nat × Nat)) (oq : Option Qu), Ground I ∧ vs = [.ref p, x] ∧ I D fr H ∧ NetAt D p pr rx many es ∧ QAt D x oq ∧ (∀ q, oq = some q → QuOk es q ∧ QuG es.length q) ∧ es.length ≤ 1000 ∧
  ∀ (D' H' : Hp), Same D D' → I D' fr H' → Q .non H'
section
variable {P : Program} {w : World} {K : PySem.W.Frag} {mg : Str → Option Value} {base : Heap}
theorem sc_asked_question : FnScope ["ask", "saying"] ["ask"] (defScope s_asked_question) := ⟨rfl, rfl, rfl, by decide +kernel, rfl, by decide +kernel, by decide +kernel⟩
theorem c_asked_question (T : Txt K mg) : C8.Cal P w K mg base 1 "asked_question" spAskedQ [] := by
  refine cal_mk T.d_asked_question sc_asked_question (fun _ _ _ _ _ _ us hl => match us, hl with | [_], _ => rfl) (fun vs H Q E h => ?_) (fun f cdv A outer s H vs Q E hr h => ?_)
  · obtain ⟨I, D, fr, x, a, gI, rfl, _⟩ := h
    rfl
  obtain ⟨I, D, fr, x, a, gI, rfl, h, hx, ha8, k⟩ := h
  refine ⟨_, (pss_cons (ps_if (pt_cmpR op_in_seq (pe_ix ix_tup (pv 0) pe_int (fun _ _ => rfl)) (pe_tup (pa_cons pe_str (pa_cons pe_str pa_nil))) (by rfl)) (pss_one (ps_ret (pe_ix ix_tup (pv 0) pe_int (fun _ _ => rfl)))) pss_nil) (pss_cons (ps_if (pt_cmpR op_ne (pe_ix ix_tup (pv 0) pe_int (fun _ _ => rfl)) pe_str (nomark _)) (pss_one (ps_ret pe_non)) pss_nil) (pss_cons (ps_set (i := 1) sc_asked_question.nd rfl (Or.inl rfl) (pe_ix ix_tup (pv 0) pe_int (fun _ _ => rfl))) (pss_cons (ps_while PassesOwn.never (pt_cmpR op_eq (pe_ix ix_tup (pv 1) pe_int (fun _ _ => rfl)) pe_str (nomark _)) (pss_one (ps_set (i := 1) sc_asked_question.nd rfl (Or.inl rfl) (pe_ix ix_tup (pv 1) pe_int (fun _ _ => rfl))))) (pss_one (ps_ret (pe_ifExp (pt_cmpR op_eq (pe_ix ix_tup (pv 1) pe_int (fun _ _ => rfl)) pe_str (nomark _)) pe_non (pe_ix ix_tup (pv 1) pe_int (fun _ _ => rfl))))))))), ?_⟩
  show tSeq _ _ _ [some x, none] H
  have mid : (∃ (wd : Str) (q : Qu) (c : Addr) (u : V), x = .ref c ∧ D c = some (.tup [.str wd, u]) ∧ At D u q.d ∧ (wd = "least" ∨ wd = "most") ∧ asQ a = some q) ∨ (∃ (wd : Str) (r : List V) (c : Addr), x = .ref c ∧ D c = some (.tup (.str wd :: r)) ∧ (wd = "sure" ∨ wd = "followers") ∧ r.length ≤ 1 ∧ asQ a = none) ∨ ∃ (s : Sa) (c : Addr) (u : V), x = .ref c ∧ D c = some (.tup [.str "say", u]) ∧ At D u s.d ∧ a = .say s := by
    cases a with
    | least q =>
      obtain ⟨c, u, v, rfl, hc, hu, hv⟩ := tu2_at hx
      rw [hu.str_is] at hc
      exact .inl ⟨_, q, c, v, rfl, hc, hv, .inl rfl, rfl⟩
    | most q =>
      obtain ⟨c, u, v, rfl, hc, hu, hv⟩ := tu2_at hx
      rw [hu.str_is] at hc
      exact .inl ⟨_, q, c, v, rfl, hc, hv, .inr rfl, rfl⟩
    | followers i =>
      obtain ⟨c, u, v, rfl, hc, hu, hv⟩ := tu2_at hx
      rw [hu.str_is] at hc
      exact .inr (.inl ⟨_, [v], c, rfl, hc, .inr rfl, Nat.le_refl _, rfl⟩)
    | sure =>
      obtain ⟨c, u, rfl, hc, hu⟩ := tu1_at hx
      rw [hu.str_is] at hc
      exact .inr (.inl ⟨_, [], c, rfl, hc, .inl rfl, Nat.zero_le _, rfl⟩)
    | say s =>
      obtain ⟨c, u, v, rfl, hc, hu, hv⟩ := tu2_at hx
      rw [hu.str_is] at hc
      exact .inr (.inr ⟨s, c, v, rfl, hc, hv, rfl⟩)
  rcases mid with ⟨wd, q, c, u, rfl, hc, hu, hwd, hq⟩ | ⟨wd, r, c, rfl, hc, hwd, hrl, hq⟩ | ⟨s', c, u, rfl, hc, hu, rfl⟩
  · have hc0 := gI.same h _ _ hc
    walk_at "st"
    walk_at "ux"
    intro p1 n1
    have h1 := gI.tmp (.tup [.str "least", .str "most"]) h n1
    have hc1 := gI.same h1 _ _ hc
    refine ⟨_, .inr (SqT.of upd_same), rfl, ?_⟩
    rw [if_pos (by rcases hwd with rfl | rfl <;> decide +kernel)]
    refine ⟨_, SqT.of hc1, _, rfl, ?_⟩
    refine k _ _ _ same_rfl h1 ?_
    rw [hq]
    exact ⟨hu, Qu.ne_non hu⟩
  · have hc0 := gI.same h _ _ hc
    walk_at "st"
    refine ⟨_, SqT.of hc0, _, atI_of (n := 0) rfl rfl, ?_⟩
    intro p1 n1
    have h1 := gI.tmp (.tup [.str "least", .str "most"]) h n1
    have hc1 := gI.same h1 _ _ hc
    refine ⟨_, .inr (SqT.of upd_same), by first | rfl | (rcases hwd with rfl | rfl <;> rfl), rfl, ?_⟩
    rw [if_neg (by rcases hwd with rfl | rfl <;> decide +kernel)]
    walk_at "st"
    refine ⟨_, SqT.of hc1, _, atI_of (n := 0) rfl rfl, by first | rfl | (rcases hwd with rfl | rfl <;> rfl), ?_⟩
    rw [if_neg (by rcases hwd with rfl | rfl <;> decide +kernel)]
    refine k _ _ _ same_rfl h1 ?_
    rw [hq]
    rfl
  · have hc0 := gI.same h _ _ hc
    walk_at "st"
    walk_at "ux"
    intro p1 n1
    have h1 := gI.tmp (.tup [.str "least", .str "most"]) h n1
    have hc1 := gI.same h1 _ _ hc
    refine ⟨_, .inr (SqT.of upd_same), rfl, ?_⟩
    rw [if_neg (by decide +kernel)]
    walk_at "st"
    refine ⟨_, SqT.of hc1, _, atI_of (n := 0) rfl rfl, rfl, ?_⟩
    rw [if_pos rfl]
    walk_at "st"
    refine ⟨_, SqT.of hc1, _, rfl, ?_⟩
    refine loop_w (fun m σ H' => ∃ (D' : Hp) (s : Sa) (v : V), σ = [some (.ref c), some v] ∧ Same D D' ∧ I D' fr H' ∧ At D' v s.d ∧ saQ s = saQ s' ∧ m = s.nots) _ ⟨D, s', u, rfl, same_rfl, h1, hu, rfl, rfl⟩ ?_
    rintro m σ H' ⟨D', s, v, rfl, sD, h', hv, hs, rfl⟩
    cases s with
    | no t =>
      obtain ⟨c2, u2, v2, rfl, hc2, hu2, hv2⟩ := tu2_at hv
      rw [hu2.str_is] at hc2
      have hc3 := gI.same h' _ _ hc2
      walk_at "st"
      refine ⟨_, SqT.of hc3, _, atI_of (n := 0) rfl rfl, rfl, ?_⟩
      rw [if_pos rfl]
      refine stepW fun N hN => ?_
      walk_at "st"
      refine ⟨_, SqT.of hc3, _, rfl, ?_⟩
      exact hN _ _ _ (Nat.lt_succ_self t.nots) ⟨D', t, v2, rfl, sD, h', hv2, hs, rfl⟩
    | least n q =>
      obtain ⟨c2, u2, v2, w2, rfl, hc2, hu2, hv2, hw2⟩ := tu3_at hv
      rw [hu2.str_is] at hc2
      have hc3 := gI.same h' _ _ hc2
      walk_at "st"
      refine ⟨_, SqT.of hc3, _, atI_of (n := 0) rfl rfl, rfl, ?_⟩
      rw [if_neg (by decide +kernel)]
      walk_at "st"
      walk_at "st"
      refine ⟨_, SqT.of hc3, _, atI_of (n := 0) rfl rfl, rfl, ?_⟩
      rw [if_neg (by decide +kernel)]
      refine ⟨_, SqT.of hc3, _, rfl, ?_⟩
      refine k _ _ _ sD h' ?_
      show QAt D' _ (saQ s')
      rw [← hs]
      exact ⟨hw2, Qu.ne_non hw2⟩
    | most n q =>
      obtain ⟨c2, u2, v2, w2, rfl, hc2, hu2, hv2, hw2⟩ := tu3_at hv
      rw [hu2.str_is] at hc2
      have hc3 := gI.same h' _ _ hc2
      walk_at "st"
      refine ⟨_, SqT.of hc3, _, atI_of (n := 0) rfl rfl, rfl, ?_⟩
      rw [if_neg (by decide +kernel)]
      walk_at "st"
      walk_at "st"
      refine ⟨_, SqT.of hc3, _, atI_of (n := 0) rfl rfl, rfl, ?_⟩
      rw [if_neg (by decide +kernel)]
      refine ⟨_, SqT.of hc3, _, rfl, ?_⟩
      refine k _ _ _ sD h' ?_
      show QAt D' _ (saQ s')
      rw [← hs]
      exact ⟨hw2, Qu.ne_non hw2⟩
    | follow n q =>
      obtain ⟨c2, u2, v2, w2, rfl, hc2, hu2, hv2, hw2⟩ := tu3_at hv
      rw [hu2.str_is] at hc2
      have hc3 := gI.same h' _ _ hc2
      walk_at "st"
      refine ⟨_, SqT.of hc3, _, atI_of (n := 0) rfl rfl, rfl, ?_⟩
      rw [if_neg (by decide +kernel)]
      walk_at "st"
      walk_at "st"
      refine ⟨_, SqT.of hc3, _, atI_of (n := 0) rfl rfl, rfl, ?_⟩
      rw [if_pos rfl]
      refine k _ _ _ sD h' ?_
      show QAt D' _ (saQ s')
      rw [← hs]
      rfl
theorem sc_need_question : FnScope ["net", "question"] ["net", "question"] (defScope s_need_question) := ⟨rfl, rfl, rfl, by decide +kernel, rfl, by decide +kernel, by decide +kernel⟩
theorem c_need_question (T : Txt K mg) : C8.Cal P w K mg base 5 "need_question" spNeedQ [] := by
  have h_question_error : C8.Cal P w K mg base 4 "question_error" spQuErr [] := c_question_error T
  refine cal_mk T.d_need_question sc_need_question (fun _ _ _ _ _ _ us hl => match us, hl with | [_, _], _ => rfl) (fun vs H Q E h => ?_) (fun f cdv A outer s H vs Q E hr h => ?_)
  · obtain ⟨I, D, fr, p, pr, x, rx, many, es, oq, gI, rfl, _⟩ := h
    rfl
  obtain ⟨I, D, fr, p, pr, x, rx, many, es, oq, gI, rfl, h, hnet, hx, hq, hel, k⟩ := h
  refine ⟨_, (pss_one (ps_if (PW.pt (pw_and (pt_cmpR op_notN (pv 1) pe_non (nomark _)) (pw_and1 (pt_cmpR op_notN (C8.pe_c h_question_error hr (by decide) rfl (pa_cons (pv 0) (pa_cons (pv 1) pa_nil))) pe_non (nomark _))))) (pss_one ps_never) pss_nil)), ?_⟩
  show tIfS _ _ _ _ [some (.ref p), some x] H
  cases oq with
  | none =>
    have e : x = .non := hx
    subst e
    walk_at "rd"
    exact k _ _ same_rfl h
  | some q =>
    obtain ⟨hx1, hx2⟩ := hx
    obtain ⟨hq1, hq2⟩ := hq q rfl
    walk_at "rd"
    rw [if_neg hx2]
    refine ⟨I, D, fr, p, pr, x, rx, many, es, q, gI, rfl, h, hnet, hx1, hq1, hq2, hel, fun D' H' sD h' => ?_⟩
    show if V.non = V.non then _ else _
    rw [if_pos rfl]
    exact k _ _ sD h'
end
/-! ### text R1 -/
/-! ## ring_of answers None: a rank grows along every edge told -/
def remR (es : List (Str × Str)) (kvs : List (Key × V)) : Nat := ((es.map (·.2)).filter fun b => (valV kvs (key b)).isNone).length
def CmR (D : Hp) (es : List (Str × Str)) (head : Str) (rk : Str → Nat) (kvs : List (Key × V)) : Prop :=
  (∀ s v, valV kvs (key s) = some v → ∃ c xs, v = .ref c ∧ D c = some (.tup xs) ∧ xs.length ≤ kvs.length ∧ rk head ≤ rk s ∧ xs ≠ []) ∧ kvs.length + remR es kvs ≤ es.length + 1
theorem CmR.up {D D' : Hp} {es : List (Str × Str)} {head : Str} {rk : Str → Nat} {kvs : List (Key × V)} (h : CmR D es head rk kvs) (s : Same D D') : CmR D' es head rk kvs := by
  refine ⟨fun t v e => ?_, h.2⟩
  obtain ⟨c, xs, e1, e2, e3⟩ := h.1 t v e
  exact ⟨c, xs, e1, s _ _ e2, e3⟩
theorem filter_drop {α : Type} {p q : α → Bool} {a : α} : ∀ {l : List α}, a ∈ l → p a = true → q a = false → (∀ x, q x = true → p x = true) → (l.filter q).length + 1 ≤ (l.filter p).length
  | x :: l, ha, hp, hq, h => by
    by_cases hax : a = x
    · subst hax
      rw [List.filter_cons_of_pos hp, List.filter_cons_of_neg (by simp [hq]), List.length_cons]
      have : (l.filter q).length ≤ (l.filter p).length := by
        have e : l.filter q = (l.filter p).filter q := by
          rw [List.filter_filter]
          congr 1
          funext x
          cases hx : q x with
          | false => rfl
          | true => rw [h x hx]; rfl
        rw [e]
        exact List.length_filter_le _ _
      omega
    · have ih := filter_drop (l := l) ((List.mem_cons.mp ha).resolve_left hax) hp hq h
      cases hx : q x with
      | true => rw [List.filter_cons_of_pos hx, List.filter_cons_of_pos (h x hx), List.length_cons, List.length_cons]; omega
      | false =>
        rw [List.filter_cons_of_neg (by simp [hx])]
        have : (l.filter p).length ≤ ((x :: l).filter p).length := by
          cases hp' : p x with
          | true => rw [List.filter_cons_of_pos hp']; exact Nat.le_succ _
          | false => rw [List.filter_cons_of_neg (by simp [hp'])]; exact Nat.le_refl _
        omega
theorem key_ne {a b : Str} (h : a ≠ b) : key a ≠ key b := fun e => h (Sum.inr.inj e)
theorem CmR.put {D : Hp} {es : List (Str × Str)} {head b : Str} {rk : Str → Nat} {kvs : List (Key × V)} {c : Addr} {xs : List V} (h : CmR D es head rk kvs) (hn : valV kvs (key b) = none) (hb : b ∈ es.map (·.2)) (hc : D c = some (.tup xs)) (hx : xs.length ≤ kvs.length + 1) (hr : rk head ≤ rk b) (hx0 : xs ≠ []) :
    CmR D es head rk (putK kvs (key b) (.ref c)) ∧ remR es (putK kvs (key b) (.ref c)) + 1 ≤ remR es kvs ∧ (putK kvs (key b) (.ref c)).length = kvs.length + 1 := by
  have hl : (putK kvs (key b) (.ref c)).length = kvs.length + 1 := by rw [putK_new _ hn, List.length_append]; rfl
  have hm : remR es (putK kvs (key b) (.ref c)) + 1 ≤ remR es kvs := by
    unfold remR
    refine filter_drop (a := b) hb (by simp [hn]) (by rw [valV_put, if_pos rfl]; rfl) (fun x hx => ?_)
    rw [valV_put] at hx
    by_cases e : key x = key b
    · rw [if_pos e] at hx; cases hx
    · rw [if_neg e] at hx; exact hx
  refine ⟨⟨fun t v e => ?_, ?_⟩, hm, hl⟩
  · rw [valV_put] at e
    by_cases et : key t = key b
    · rw [if_pos et] at e
      cases e
      have et2 : t = b := Sum.inr.inj et
      subst et2
      exact ⟨c, xs, rfl, hc, by omega, hr, hx0⟩
    · rw [if_neg et] at e
      obtain ⟨c2, xs2, e1, e2, e3, e4⟩ := h.1 t v e
      exact ⟨c2, xs2, e1, e2, by omega, e4⟩
  · have := h.2
    omega
def spRing : Sp := fun vs H Q _ => ∃ (I : Hp → List (Addr × HO) → Hp → Prop) (D : Hp) (fr : List (Addr × HO)) (pt : Addr) (tv : List V) (es : List (Str × Str)) (foot head : Str) (rk : Str → Nat), Ground I ∧ vs = [.ref pt, .str foot, .str head] ∧ I D fr H ∧ In D fr pt (.lst tv) ∧ AtL D tv (es.map prD) ∧ es.length ≤ 1000 ∧ rk foot < rk head ∧ (∀ e ∈ es, rk e.1 < rk e.2) ∧
  (∀ e ∈ es, PyData.strOk e.2 = true) ∧ PyData.strOk head = true ∧
  ∀ (D' H' : Hp), Same D D' → I D' fr H' → Q .non H'
section
variable {P : Program} {w : World} {K : PySem.W.Frag} {mg : Str → Option Value} {base : Heap}
theorem sc_ring_of : FnScope ["told", "foot", "head", "came", "row", "fresh", "here", "b", "a"] ["told", "foot", "head"] (defScope s_ring_of) := ⟨rfl, rfl, rfl, by decide +kernel, rfl, by decide +kernel, by decide +kernel⟩
theorem c_ring_of (T : Txt K mg) : C8.Cal P w K mg base 1 "ring_of" spRing [] := by
  refine cal_mk T.d_ring_of sc_ring_of (fun _ _ _ _ _ _ us hl => match us, hl with | [_, _, _], _ => rfl) (fun vs H Q E h => ?_) (fun f cdv A outer s H vs Q E hr h => ?_)
  · obtain ⟨I, D, fr, pt, tv, es, foot, head, rk, gI, rfl, _⟩ := h
    rfl
  obtain ⟨I, D, fr, pt, tv, es, foot, head, rk, gI, rfl, h, ht, htv, hl, hf, he, hes, hhd, k⟩ := h
  refine ⟨_, (pss_cons (ps_if (pt_cmpR op_eq (pv 1) (pv 2) (nomark _)) (pss_one (ps_ret (pe_tup (pa_cons (pv 1) pa_nil)))) pss_nil) (pss_cons (ps_asg (pe_tup (pa_cons (pe_disp (pps_cons (pv 2) (pe_tup (pa_cons (pv 2) pa_nil)) pps_nil) (by rfl) (by rfl) (fun z => by cases z) (by decide)) (pa_cons (pe_lst (pa_cons (pv 2) pa_nil)) pa_nil))) (pg_tup rfl (pgs_cons (pg_name (i := 3) sc_ring_of.nd rfl (.inr rfl)) (pgs_cons (pg_name (i := 4) sc_ring_of.nd rfl (.inl rfl)) pgs_nil)))) (pss_cons (ps_while PassesOwn.never (PW.pt (pw_and (pt_cmpR (op_neD hr.units) (pv 4) (pe_lst pa_nil) (nomark _)) (pw_and1 (pt_cmp (pc_dnotin (hu_of hr) (pv 1) (pv 3)))))) (pss_cons (ps_set (i := 5) sc_ring_of.nd rfl (Or.inl rfl) (pe_lst pa_nil)) (pss_cons (ps_for PassesOwn.never rfl (pi_list (pv 4)) (pg_name (i := 6) sc_ring_of.nd rfl (.inr rfl)) (pss_one (ps_for PassesOwn.never rfl (pi_list (pe_lc (g := (gTup K 2 _)) (tt := _) (te := _) (own := [("a", 8), ("b", 7)]) rfl sc_ring_of.nd (pi_list (pv 0)) (blkOk_by (by kernel_rfl)) (fun _ _ _ _ _ => (pg_tup rfl (pgs_cons (pg_name (i := 8) sc_ring_of.nd rfl (.inl rfl)) (pgs_cons (pg_name (i := 7) sc_ring_of.nd rfl (.inl rfl)) pgs_nil)))) (fun _ _ _ _ _ => (pts_one (PW.pt (pw_and (pt_cmpR op_eq (pv 8) (pv 6) (nomark _)) (pw_and1 (pt_cmp (pc_dnotin (hu_of hr) (pv 7) (pv 3)))))))) (fun _ _ _ _ _ => (pv 7)))) (pg_name (i := 7) sc_ring_of.nd rfl (.inl rfl)) (pss_one (ps_if (pt_cmp (pc_dnotin (hu_of hr) (pv 7) (pv 3))) (pss_cons (ps_dput (hu_of hr) (pv 3) (pv 7) (pe_op op_catA (pe_dget (hu_of hr) (pv 3) (pv 6) (fun _ _ => rfl)) (pe_tup (pa_cons (pv 7) pa_nil))) rfl) (pss_one (ps_expr (pe_bm PySem.F.plainAttrs_list PySem.F.slot_list_append PySem.F.type_list_append mt_append (pv 5) (pa_cons (pv 7) pa_nil))))) pss_nil))))) (pss_one (ps_set (i := 4) sc_ring_of.nd rfl (Or.inl rfl) (pv 5)))))) (pss_one (ps_ret (pe_ifExp (pt_cmp (pc_din (hu_of hr) (pv 1) (pv 3))) (pe_op op_catA (pe_tup (pa_cons (pv 1) pa_nil)) (pe_slice sl_tupA (pe_dget (hu_of hr) (pv 3) (pv 1) (fun _ _ => rfl)) po_none (po_some (pe_un un_neg pe_int)))) pe_non)))))), ?_⟩
  show tSeq _ _ _ [some (.ref pt), some (.str foot), some (.str head), none, none, none, none, none, none] H
  have hfh : foot ≠ head := fun e => by rw [e] at hf; exact Nat.lt_irrefl _ hf
  walk_at "st"
  rw [if_neg hfh]
  walk_at "st"
  intro pc n1
  have h1 := gI.put (.dK []) h n1
  walk_at "rd"
  intro p2 n2
  obtain ⟨h2, s2⟩ := gI.new (.tup [.str head]) h1 n2
  have hc2 := gI.get 0 h2 rfl
  walk_at "rd"
  refine ⟨hc2, [(key head, .ref p2)], rfl, by show 1 ≤ 15; decide, fun p3 n3 => ?_⟩
  have h3 := gI.upd 0 (.dK [(key head, .ref p2)]) h2 rfl
  rw [show mergeK ([] : List (Key × V)) [(key head, V.ref p2)] = [(key head, .ref p2)] from rfl] at n3 ⊢
  obtain ⟨h4, s4⟩ := gI.new (.lst [.str head]) h3 n3
  intro p4 n4
  have h5 := gI.tmp (.tup [.ref pc, .ref p3]) h4 n4
  refine ⟨_, SqT.of upd_same, rfl, _, _, rfl, _, _, rfl, rfl, ?_⟩
  have s5 := same_tr s2 s4
  have cm : CmR (upd (upd D p2 (.tup [.str head])) p3 (.lst [.str head])) es head rk [(key head, .ref p2)] := by
    refine ⟨fun t v e => ?_, ?_⟩
    · by_cases e2 : t = head
      · subst e2
        rw [valV_pos (p := (key t, V.ref p2)) rfl] at e
        cases e
        exact ⟨p2, _, rfl, s4 _ _ upd_same, Nat.le_refl _, Nat.le_refl _, by simp⟩
      · rw [valV_neg (p := (key head, V.ref p2)) (fun z => key_ne e2 z.symm)] at e
        cases e
    · have : remR es [(key head, V.ref p2)] ≤ es.length := by
        unfold remR
        exact Nat.le_trans (List.length_filter_le _ _) (by rw [List.length_map]; exact Nat.le_refl _)
      simp only [List.length_cons, List.length_nil]
      omega
  walk_at "st"
  obtain ⟨W, hW⟩ : ∃ W : Nat → L2.St → Hp → Prop, W = (fun m σ H' => ∃ (D' : Hp) (kvs : List (Key × V)) (pr : Addr) (row : List Str) (x5 x6 x7 x8 : Option V), σ = [some (.ref pt), some (.str foot), some (.str head), some (.ref pc), some (.ref pr), x5, x6, x7, x8] ∧ Same D D' ∧ I D' ((pc, .dK kvs) :: fr) H' ∧ D' pr = some (.lst (row.map V.str)) ∧
      (∀ t ∈ row, PyData.strOk t = true ∧ ∃ v, valV kvs (key t) = some v) ∧ CmR D' es head rk kvs ∧ m = 2 * remR es kvs + if row = [] then 0 else 1) := ⟨_, rfl⟩
  refine loop_w W _ (by
    rw [hW]
    exact ⟨_, _, _, [head], _, _, _, _, rfl, s5, h5, upd_same, fun t ht => by
      rw [List.mem_singleton.mp ht]
      exact ⟨hhd, _, valV_pos (p := (key head, V.ref p2)) rfl⟩, cm, rfl⟩) ?_
  intro m σ H6 hw
  rw [hW] at hw
  obtain ⟨D6, kvs, pr, row, x5, x6, x7, x8, rfl, s6, h6, hrow, hin, cm6, rfl⟩ := hw
  walk_at "rd"
  intro p7 n7
  have h7 := gI.tmp (.lst []) h6 n7
  have hr7 := gI.same h7 _ _ hrow
  refine ⟨.list (row.map .str), .lst (SqL.of hr7) (AtL.dp (D := fun _ => none) (fun _ _ e => by cases e) (AtL.strs.mpr rfl)), .list [], .lst (SqL.of upd_same) .nil, shaped_strs fun n hn => ?_, shaped_nil, ?_⟩
  · exact (hin n hn).1
  rw [eqv_nil]
  by_cases hrn : row = []
  · subst hrn
    refine if_ne (by rfl) ?_
    walk_at "rd"
    refine ⟨_, DGet.k (k := key foot) (gI.get 0 h7 rfl), ?_⟩
    have hno : valV kvs (key foot) = none := by
      cases e : valV kvs (key foot) with
      | none => rfl
      | some v =>
        obtain ⟨_, _, _, _, _, z, _⟩ := cm6.1 foot v e
        omega
    rw [hno]
    walk_at "rd"
    exact k _ _ s6 (gI.drop h7 0)
  · refine if_eq (by cases row with | nil => exact absurd rfl hrn | cons a l => rfl) ?_
    have hno : valV kvs (key foot) = none := by
      cases e : valV kvs (key foot) with
      | none => rfl
      | some v =>
        obtain ⟨_, _, _, _, _, z, _⟩ := cm6.1 foot v e
        omega
    refine ⟨_, DGet.k (k := key foot) (gI.get 0 h7 rfl), ?_⟩
    rw [hno]
    refine if_eq (by rfl) (stepW fun N hN => ?_)
    walk_at "st"
    intro p8 n8
    have h8 := gI.put (.lst []) h7 n8
    walk_at "st"
    refine ⟨⟨_, SqL.of (gI.same h8 _ _ hrow)⟩, ?_⟩
    refine loop_f (walk_list (xs := row.map V.str)) (fun i σ H' => ∃ (D' : Hp) (kvs' : List (Key × V)) (fs : List Str) (x6 x7 x8 : Option V), σ = [some (.ref pt), some (.str foot), some (.str head), some (.ref pc), some (.ref pr), some (.ref p8), x6, x7, x8] ∧ Same D6 D' ∧ I D' ((p8, .lst (fs.map V.str)) :: (pc, .dK kvs') :: fr) H' ∧
      (∀ t ∈ fs, PyData.strOk t = true ∧ ∃ v, valV kvs' (key t) = some v) ∧ (∀ t ∈ row, ∃ v, valV kvs' (key t) = some v) ∧ CmR D' es head rk kvs' ∧ remR es kvs' + fs.length ≤ remR es kvs)
      ⟨_, kvs, [], _, _, _, rfl, same_rfl, h8, (fun t ht => by cases ht), fun t ht => (hin t ht).2, cm6, Nat.le_refl _⟩ (fun i σ H' _ hh => by
        obtain ⟨D', kvs', fs, x6, x7, x8, _, s, h, _⟩ := hh
        exact SqL.of (gI.same h _ _ (s _ _ hrow))) ?_ ?_
    · rintro i x σ H9 H10 hi ⟨D9, kv9, fs, x6, x7, x8, rfl, s9, h9, hfs, hrow9, cm9, hm9⟩ ⟨rfl, hy⟩ N2 hN2
      rw [List.getElem?_map, Option.map_eq_some_iff] at hy
      obtain ⟨here, hhe, rfl⟩ := hy
      have hhr := List.mem_of_getElem? hhe
      obtain ⟨vh, hvh⟩ := hrow9 here hhr
      have hpt9 : In D9 ((p8, .lst (fs.map V.str)) :: (pc, .dK kv9) :: fr) pt (.lst tv) := ((ht.up s6).up s9).more.more
      have htv9 := (htv.up s6).up s9
      walk_at "rd"
      refine ⟨⟨_, SqL.of (gI.in_ h9 hpt9)⟩, ?_⟩
      refine gathF gI (src_list gI hpt9 htv9) h9 PyData.str (fun e => if (e.1 == here && (valV kv9 (key e.2)).isNone) = true then some e.2 else none) (by omega) ?_ ?_
      · intro j y r D10 q10 H11 hr10 hy s10 h10 My Mn myes mno
        obtain ⟨b, rfl, hb⟩ := pr_at hy
        have hb10 := gI.same h10 _ _ hb
        walk_at "rd"
        refine ⟨_, SqT.of hb10, rfl, _, _, rfl, _, _, rfl, rfl, ?_⟩
        walk_at "rd"
        by_cases hc : r.1 = here
        · rw [if_pos hc]
          refine ⟨_, DGet.k (k := key r.2) (gI.get 2 h10 rfl), ?_⟩
          cases hd : valV kv9 (key r.2) with
          | none =>
            refine if_eq (by rfl) ?_
            exact myes _ _ _ _ same_rfl h10 (.str _) (by rw [if_pos (by simp [hc, hd])])
          | some v0 =>
            refine if_ne (by rfl) ?_
            exact mno _ _ same_rfl h10 (by rw [if_neg (by simp [hd])])
        · rw [if_neg hc]
          exact mno _ _ same_rfl h10 (by rw [if_neg (by simp [hc])])
      · intro D10 H11 v s10 h10 hv
        obtain ⟨bs, hbs⟩ : ∃ bs, bs = es.filterMap fun e => if (e.1 == here && (valV kv9 (key e.2)).isNone) = true then some e.2 else none := ⟨_, rfl⟩
        rw [← hbs] at hv
        have hbm : ∀ b ∈ bs, b ∈ es.map (·.2) ∧ rk here < rk b ∧ PyData.strOk b = true := by
          intro b hb
          rw [hbs] at hb
          obtain ⟨e, he1, he2⟩ := List.mem_filterMap.mp hb
          by_cases hc : (e.1 == here && (valV kv9 (key e.2)).isNone) = true
          · rw [if_pos hc] at he2
            cases he2
            have e3 : e.1 = here := by
              rw [Bool.and_eq_true] at hc
              exact eq_of_beq hc.1
            exact ⟨List.mem_map_of_mem he1, e3 ▸ he e he1, hes e he1⟩
          · rw [if_neg hc] at he2
            cases he2
        obtain ⟨qa, xs, rfl, hqa, hxs⟩ := hv.lst_is
        obtain rfl := AtL.strs.mp hxs
        refine ⟨_, rfl, ⟨_, SqL.of (gI.same h10 _ _ hqa)⟩, ?_⟩
        refine loop_f (walk_list (xs := bs.map V.str)) (fun i σ H' => ∃ (D' : Hp) (kvs' : List (Key × V)) (fs : List Str) (x7 x8 : Option V), σ = [some (.ref pt), some (.str foot), some (.str head), some (.ref pc), some (.ref pr), some (.ref p8), some (.str here), x7, x8] ∧ Same D10 D' ∧ I D' ((p8, .lst (fs.map V.str)) :: (pc, .dK kvs') :: fr) H' ∧
          (∀ t ∈ fs, PyData.strOk t = true ∧ ∃ v, valV kvs' (key t) = some v) ∧ (∀ t ∈ row, ∃ v, valV kvs' (key t) = some v) ∧ CmR D' es head rk kvs' ∧ remR es kvs' + fs.length ≤ remR es kvs)
          ⟨_, kv9, fs, _, _, rfl, same_rfl, h10, hfs, hrow9, cm9.up s10, hm9⟩ (fun i σ H' _ hh => by
            obtain ⟨D', kvs', fs, x7, x8, _, s, h, _⟩ := hh
            exact SqL.of (gI.same h _ _ (s _ _ hqa))) ?_ ?_
        · rintro i x σ H12 H13 hi ⟨D12, kv2, fs2, x7, x8, rfl, s12, h12, hfs2, hrow2, cm2, hm2⟩ ⟨rfl, hy⟩ N3 hN3
          rw [List.getElem?_map, Option.map_eq_some_iff] at hy
          obtain ⟨b, hbe, rfl⟩ := hy
          obtain ⟨hb1, hb2, hb3⟩ := hbm b (List.mem_of_getElem? hbe)
          obtain ⟨vh, hvh⟩ := hrow2 here hhr
          walk_at "rd"
          refine ⟨_, DGet.k (k := key b) (gI.get 1 h12 rfl), ?_⟩
          cases hd : valV kv2 (key b) with
          | some v0 =>
            refine if_ne (by rfl) ?_
            exact hN3 _ _ ⟨D12, kv2, fs2, _, _, rfl, s12, h12, hfs2, hrow2, cm2, hm2⟩
          | none =>
            refine if_eq (by rfl) ?_
            obtain ⟨ch, xh, rfl, hch, hlx, hrx, hx0⟩ := cm2.1 here vh hvh
            walk_at "st"
            refine ⟨_, by rw [← hvh]; exact DGet.k (k := key here) (gI.get 1 h12 rfl), ?_⟩
            intro p14 n14
            have h14 := gI.tmp (.tup [.str b]) h12 n14
            have hl2 := cm2.2
            refine ⟨_, rfl, _, SqT.of (gI.same h14 _ _ hch), _, SqT.of upd_same, sz (by show xh.length + 1 ≤ 100000; omega), fun z => absurd z hx0, ?_⟩
            refine ⟨fun _ z => absurd z (by simp), fun _ _ p15 n15 => ?_⟩
            obtain ⟨h15, s15⟩ := gI.new (.tup (xh ++ [.str b])) h14 n15
            obtain ⟨cm3, rm3, ln3⟩ := (cm2.up s15).put hd hb1 upd_same (by simp; omega) (by omega) (by simp)
            refine ⟨_, DPut.k (k := key b) (gI.get 1 h15 rfl) (by rw [sizeLine_eq]; omega), ?_⟩
            have h16 := gI.upd 1 (.dK (putK kv2 (key b) (.ref p15))) h15 rfl
            walk_at "rd"
            walk_at "rd"
            have hgr : ∀ t, (∃ v, valV kv2 (key t) = some v) → ∃ v, valV (putK kv2 (key b) (.ref p15)) (key t) = some v := by
              rintro t ⟨v, e⟩
              rw [valV_put]
              by_cases z : key t = key b
              · exact ⟨_, by rw [if_pos z]⟩
              · exact ⟨v, by rw [if_neg z]; exact e⟩
            have h17 := gI.upd 0 (.lst ((fs2 ++ [b]).map V.str)) h16 rfl
            have hcm := cm6.2
            refine ⟨.inl ⟨rfl, _, SqL.of (gI.get 0 h16 rfl)⟩, _, gI.get 0 h16 rfl, by rw [sizeLine_eq, List.length_map]; omega, ?_⟩
            rw [show fs2.map V.str ++ [V.str b] = (fs2 ++ [b]).map V.str by simp]
            refine hN3 _ _ ⟨_, _, fs2 ++ [b], _, _, rfl, same_tr s12 s15, h17, fun t ht => ?_, fun t ht => hgr t (hrow2 t ht), cm3, by rw [List.length_append, List.length_singleton]; omega⟩
            rcases List.mem_append.mp ht with hm | hm
            · exact ⟨(hfs2 t hm).1, hgr t (hfs2 t hm).2⟩
            · rw [List.mem_singleton.mp hm]
              exact ⟨hb3, _, by rw [valV_put, if_pos rfl]⟩
        · rintro σ H12 ⟨D12, kv2, fs2, x7, x8, rfl, s12, h12, hfs2, hrow2, cm2, hm2⟩
          exact hN2 _ _ ⟨D12, kv2, fs2, _, _, _, rfl, same_tr (same_tr s9 s10) s12, h12, hfs2, hrow2, cm2, hm2⟩
    · rintro σ H9 ⟨D9, kv9, fs, x6, x7, x8, rfl, s9, h9, hfs, hrow9, cm9, hm9⟩
      walk_at "st"
      walk_at "st"
      obtain ⟨h10, s10⟩ := gI.fix h9
      refine hN _ _ _ ?_ (by
        rw [hW]
        exact ⟨_, kv9, p8, fs, _, _, _, _, rfl, same_tr (same_tr s6 s9) s10, h10, upd_same, hfs, cm9.up s10, rfl⟩)
      rw [if_neg hrn]
      cases fs with
      | nil => simp at hm9 ⊢; omega
      | cons a l => simp at hm9 ⊢; omega
end
/-! ### text R2 -/
/-- a new object at x, its own dict at dx -/
def spTokI (K : PySem.W.Frag) : Sp := fun vs H Q _ => ∃ (x dx : Addr) (z : Str), vs = [.ref x, .str z] ∧ H x = some (.ins (He.ga K "Tokens") dx []) ∧ Q .non (upd H x (tkO K dx z 0 .non))
def spWrdI (K : PySem.W.Frag) : Sp := fun vs H Q _ => ∃ (x dx : Addr) (l n g : V), vs = [.ref x, l, n, g] ∧ H x = some (.ins (He.ga K "Words") dx []) ∧ Q .non (upd H x (.ins (He.ga K "Words") dx [("left", l), ("names", n), ("ground", g)]))
section
variable {P : Program} {w : World} {K : PySem.W.Frag} {mg : Str → Option Value} {base : Heap}
theorem sc_Tokens_init : FnScope ["self", "value"] ["self", "value"] (defScope s_Tokens_init) := ⟨rfl, rfl, rfl, by decide +kernel, rfl, by decide +kernel, by decide +kernel⟩
theorem sc_Words_init : FnScope ["self", "tokens_left", "names", "net"] ["self", "tokens_left", "names", "net"] (defScope s_Words_init) := ⟨rfl, rfl, rfl, by decide +kernel, rfl, by decide +kernel, by decide +kernel⟩
theorem c_Tokens_init (T : Txt K mg) : C8.Mak P w K mg base 1 "Tokens" (He.ga K "Tokens") (spTokI K) [] := by
  refine mak_mk T.i_Tokens T.k_Tokens T.g_Tokens sc_Tokens_init (fun _ _ _ _ _ _ _ us hl => match us, hl with | [_, _], _ => rfl) (fun vs H Q E h => ?_) (fun q f cdv A outer s H vs Q E hr h => ?_)
  · obtain ⟨x, dx, z, rfl, _⟩ := h
    rfl
  obtain ⟨x, dx, z, rfl, e, k⟩ := h
  refine ⟨_, (pss_cons (ps_fld (pv 0) (pv 1) rfl) (pss_cons (ps_fld (pv 0) pe_int rfl) (pss_one (ps_fld (pv 0) pe_non rfl)))), ?_⟩
  show tSeq _ _ _ [some (.ref x), some (.str z)] H
  walk_at "st"
  refine ⟨_, _, _, e, T.c_Tokens, T.n_Tokens_value, by show 0 < 1000; decide, ?_⟩
  walk_at "st"
  refine ⟨_, _, _, upd_same, T.c_Tokens, T.n_Tokens_place, by show 1 < 1000; decide, ?_⟩
  walk_at "st"
  refine ⟨_, _, _, upd_same, T.c_Tokens, T.n_Tokens_token, by show 2 < 1000; decide, ?_⟩
  rw [upd_upd, upd_upd]
  exact k
theorem c_Words_init (T : Txt K mg) : C8.Mak P w K mg base 1 "Words" (He.ga K "Words") (spWrdI K) [] := by
  refine mak_mk T.i_Words T.k_Words T.g_Words sc_Words_init (fun _ _ _ _ _ _ _ us hl => match us, hl with | [_, _, _, _], _ => rfl) (fun vs H Q E h => ?_) (fun q f cdv A outer s H vs Q E hr h => ?_)
  · obtain ⟨x, dx, l, n, g, rfl, _⟩ := h
    rfl
  obtain ⟨x, dx, l, n, g, rfl, e, k⟩ := h
  refine ⟨_, (pss_cons (ps_fld (pv 0) (pv 1) rfl) (pss_cons (ps_fld (pv 0) (pv 2) rfl) (pss_one (ps_fld (pv 0) (pv 3) rfl)))), ?_⟩
  show tSeq _ _ _ [some (.ref x), some l, some n, some g] H
  walk_at "st"
  refine ⟨_, _, _, e, T.c_Words, T.n_Words_left, by show 0 < 1000; decide, ?_⟩
  walk_at "st"
  refine ⟨_, _, _, upd_same, T.c_Words, T.n_Words_names, by show 1 < 1000; decide, ?_⟩
  walk_at "st"
  refine ⟨_, _, _, upd_same, T.c_Words, T.n_Words_ground, by show 2 < 1000; decide, ?_⟩
  rw [upd_upd, upd_upd]
  exact k
end
/-! ### text R3 -/
/-- the reader: its tokens, its four lists, the first and the last place -/
def rdrO (K : PySem.W.Frag) (dx : Addr) (t p n o h : V) (f l : V) : HO := .ins (He.ga K "Reader") dx [("left", t), ("places", p), ("names", n), ("told", o), ("holes", h), ("first", f), ("last", l)]
def spRdrI (K : PySem.W.Frag) : Sp := fun vs H Q _ => ∃ (I : Hp → List (Addr × HO) → Hp → Prop) (D : Hp) (fr : List (Addr × HO)) (x dx : Addr) (z : Str), Ground I ∧ vs = [.ref x, .str z] ∧ I D ((x, .ins (He.ga K "Reader") dx []) :: fr) H ∧
  ∀ (D' H' : Hp) (T dt p n o h : Addr), Same D D' → I D' ((T, tkO K dt z 0 .non) :: (p, .lst []) :: (n, .lst []) :: (o, .lst []) :: (h, .lst []) :: (x, rdrO K dx (.ref T) (.ref p) (.ref n) (.ref o) (.ref h) .non .non) :: fr) H' → Q .non H'
section
variable {P : Program} {w : World} {K : PySem.W.Frag} {mg : Str → Option Value} {base : Heap}
theorem sc_Reader_init : FnScope ["self", "value"] ["self", "value"] (defScope s_Reader_init) := ⟨rfl, rfl, rfl, by decide +kernel, rfl, by decide +kernel, by decide +kernel⟩
theorem c_Reader_init (T : Txt K mg) : C8.Mak P w K mg base 3 "Reader" (He.ga K "Reader") (spRdrI K) [] := by
  have h_Tokens : C8.Mak P w K mg base 1 "Tokens" (He.ga K "Tokens") (spTokI K) [] := c_Tokens_init T
  refine mak_mk T.i_Reader T.k_Reader T.g_Reader sc_Reader_init (fun _ _ _ _ _ _ _ us hl => match us, hl with | [_, _], _ => rfl) (fun vs H Q E h => ?_) (fun q f cdv A outer s H vs Q E hr h => ?_)
  · obtain ⟨I, D, fr, x, dx, z, gI, rfl, _⟩ := h
    rfl
  obtain ⟨I, D, fr, x, dx, z, gI, rfl, h, k⟩ := h
  refine ⟨_, (pss_cons (ps_fld (pv 0) (C8.pe_mk h_Tokens hr (by decide) rfl (pa_cons (pv 1) pa_nil)) rfl) (pss_cons (ps_asg (pe_tup (pa_cons (pe_lst pa_nil) (pa_cons (pe_lst pa_nil) (pa_cons (pe_lst pa_nil) (pa_cons (pe_lst pa_nil) pa_nil))))) (pg_tup rfl (pgs_cons (pg_fld (pv 0)) (pgs_cons (pg_fld (pv 0)) (pgs_cons (pg_fld (pv 0)) (pgs_cons (pg_fld (pv 0)) pgs_nil)))))) (pss_one (ps_asg (pe_tup (pa_cons pe_non (pa_cons pe_non pa_nil))) (pg_tup rfl (pgs_cons (pg_fld (pv 0)) (pgs_cons (pg_fld (pv 0)) pgs_nil))))))), ?_⟩
  show tSeq _ _ _ [some (.ref x), some (.str z)] H
  walk_at "st"
  intro T1 dt n1 n2 hne
  have h1 := gI.tmp (.own T1) h n2
  have h2 := gI.put (.ins (He.ga K "Tokens") dt []) h1 (p := T1) (by rw [upd_ne (Ne.symm hne)]; exact n1)
  refine ⟨T1, dt, z, rfl, upd_same, rfl, ?_⟩
  have h3 := gI.upd 0 (tkO K dt z 0 .non) h2 rfl
  refine ⟨_, _, _, gI.get 1 h3 rfl, T.c_Reader, T.n_Reader_left, by show 0 < 1000; decide, ?_⟩
  have h4 := gI.upd 1 (.ins (He.ga K "Reader") dx [("left", .ref T1)]) h3 rfl
  walk_at "st"
  intro p5 n5
  have h5 := gI.put (.lst []) h4 n5
  walk_at "rd"
  intro p6 n6
  have h6 := gI.put (.lst []) h5 n6
  walk_at "rd"
  intro p7 n7
  have h7 := gI.put (.lst []) h6 n7
  walk_at "rd"
  intro p8 n8
  have h8 := gI.put (.lst []) h7 n8
  walk_at "rd"
  intro p9 n9
  have h9 := gI.tmp (.tup [.ref p5, .ref p6, .ref p7, .ref p8]) h8 n9
  walk_at "rd"
  refine ⟨_, SqT.of upd_same, rfl, _, _, rfl, _, _, _, gI.get 5 h9 rfl, T.c_Reader, T.n_Reader_places, by show 1 < 1000; decide, _, _, rfl, _, _, _, upd_same, T.c_Reader, T.n_Reader_names, by show 2 < 1000; decide, _, _, rfl, _, _, _, upd_same, T.c_Reader, T.n_Reader_told, by show 3 < 1000; decide, _, _, rfl, _, _, _, upd_same, T.c_Reader, T.n_Reader_holes, by show 4 < 1000; decide, rfl, ?_⟩
  rw [upd_upd, upd_upd, upd_upd]
  have h10 := gI.upd 5 (.ins (He.ga K "Reader") dx [("left", .ref T1), ("places", .ref p5), ("names", .ref p6), ("told", .ref p7), ("holes", .ref p8)]) h9 rfl
  walk_at "rd"
  intro p11 n11
  have h11 := gI.tmp (.tup [.non, .non]) h10 n11
  refine ⟨_, SqT.of upd_same, rfl, _, _, rfl, _, _, _, gI.get 5 h11 rfl, T.c_Reader, T.n_Reader_first, by show 5 < 1000; decide, _, _, rfl, _, _, _, upd_same, T.c_Reader, T.n_Reader_last, by show 6 < 1000; decide, rfl, ?_⟩
  rw [upd_upd]
  have h12 := gI.upd 5 (rdrO K dx (.ref T1) (.ref p5) (.ref p6) (.ref p7) (.ref p8) .non .non) h11 rfl
  refine k D _ T1 dt p5 p6 p7 p8 same_rfl (gI.perm h12 ?_)
  exact List.Perm.append_right ((x, rdrO K dx (.ref T1) (.ref p5) (.ref p6) (.ref p7) (.ref p8) .non .non) :: fr) (List.reverse_perm [(T1, tkO K dt z 0 .non), (p5, .lst []), (p6, .lst []), (p7, .lst []), (p8, .lst [])]).symm
end
/-! ### text R4 -/
/-- what the reader keeps: addresses -/
structure RdA where
  T : Addr
  p : Addr
  n : Addr
  o : Addr
  h : Addr
  x : Addr
  dx : Addr
/-- what the reader has read so far -/
structure RdN where
  pl : List Str
  nm : List Str
  tv : List V
  hv : List V
  f : V
  l : V
def rdF (K : PySem.W.Frag) (a : RdA) (s : RdN) (fr : List (Addr × HO)) : List (Addr × HO) := (a.T, .lst []) :: (a.p, .lst (s.pl.map V.str)) :: (a.n, .lst (s.nm.map V.str)) :: (a.o, .lst s.tv) :: (a.h, .lst s.hv) :: (a.x, rdrO K a.dx (.ref a.T) (.ref a.p) (.ref a.n) (.ref a.o) (.ref a.h) s.f s.l) :: fr
def RdS (I : Hp → List (Addr × HO) → Hp → Prop) (K : PySem.W.Frag) (D : Hp) (fr : List (Addr × HO)) (a : RdA) (s : RdN) (H : Hp) (ts : List Str) : Prop := TKs I K D (rdF K a s fr) 0 a.T H ts
def spFresh (K : PySem.W.Frag) (b : Bool) : Sp := fun vs H Q _ => ∃ (I : Hp → List (Addr × HO) → Hp → Prop) (D : Hp) (fr : List (Addr × HO)) (a : RdA) (s : RdN) (x : Str) (rest : List Str) (lim : Nat), Ground I ∧ vs = [.ref a.x, .ref (if b then a.p else a.n), vN lim] ∧ RdS I K D fr a s H (x :: rest) ∧ named x = true ∧ x ∉ s.pl ∧ x ∉ s.nm ∧ (if b then s.pl else s.nm).length < lim ∧ lim ≤ 1000 ∧
  ∀ (D' H' : Hp), Same D D' → RdS I K D' fr a (if b then { s with pl := s.pl ++ [x] } else { s with nm := s.nm ++ [x] }) H' rest → Q .non H'
section
variable {P : Program} {w : World} {K : PySem.W.Frag} {mg : Str → Option Value} {base : Heap}
theorem sc_Reader_fresh : FnScope ["self", "known", "limit", "name"] ["self", "known", "limit"] (defScope s_Reader_fresh) := ⟨rfl, rfl, rfl, by decide +kernel, rfl, by decide +kernel, by decide +kernel⟩
theorem c_Reader_fresh (T : Txt K mg) (b : Bool) : C8.Met P w K mg base 8 (He.ga K "Reader") "fresh" (spFresh K b) [] := by
  have h_Tokens_name := c_Tokens_name (P := P) (w := w) (base := base) T
  refine met_mk T.m_Reader_fresh T.c_Reader sc_Reader_fresh (fun _ _ _ _ _ _ us hl => match us, hl with | [_, _, _], _ => rfl) (fun vs H Q E h => ?_) (fun f cdv A outer s H vs Q E hr h => ?_)
  · obtain ⟨I, D, fr, a, s, x, rest, lim, gI, rfl, _⟩ := h
    rfl
  obtain ⟨I, D, fr, a, s, x, rest, lim, gI, rfl, h, hx, hp, hn, hl, hlim, k⟩ := h
  refine ⟨_, (pss_cons (ps_set (i := 3) sc_Reader_fresh.nd rfl (Or.inl rfl) (C8.pe_mt0 h_Tokens_name hr (by decide) (pe_fld (pv 0) rfl))) (pss_cons (ps_if (PW.pt (pw_or (pt_cmpR op_in_seq (pv 3) (pe_fld (pv 0) rfl) (by rfl)) (pw_or1 (pt_cmpR op_in_seq (pv 3) (pe_fld (pv 0) rfl) (by rfl))))) (pss_one ps_never) pss_nil) (pss_cons (ps_if (pt_cmpR op_eq (pe_callB call_len_seq (by rfl) T.b_len PySem.boot_len (pa_cons (pv 1) pa_nil)) (pv 2) (nomark _)) (pss_one ps_never) pss_nil) (pss_one (ps_expr (pe_bm PySem.F.plainAttrs_list PySem.F.slot_list_append PySem.F.type_list_append mt_append (pv 1) (pa_cons (pv 3) pa_nil))))))), ?_⟩
  show tSeq _ _ _ [some (.ref a.x), some (.ref (if b then a.p else a.n)), some (vN lim), none] H
  walk_at "st"
  have e0 := TKs.at_ gI h 5 (by decide) rfl
  obtain ⟨dx, z, p, t, e⟩ := TKs.get gI h
  refine ⟨_, _, _, e0, T.c_Reader, T.n_Reader_left, _, rfl, _, rfl, _, _, e, rfl, I, D, _, 0, a.T, _, _, gI, rfl, h, hx, fun D1 H1 s1 h1 => ?_⟩
  have e1 := TKs.at_ gI h1 5 (by decide) rfl
  walk_at "st"
  walk_at "st"
  refine ⟨_, _, _, e1, T.c_Reader, T.n_Reader_places, _, rfl, ?_⟩
  refine ⟨_, rfl, _, .inl (SqL.of (TKs.at_ gI h1 1 (by decide) rfl)), flat_strs _, ?_⟩
  rw [inV_strs, if_neg (by simpa using hp)]
  refine ⟨_, _, _, e1, T.c_Reader, T.n_Reader_names, _, rfl, _, rfl, _, .inl (SqL.of (TKs.at_ gI h1 2 (by decide) rfl)), flat_strs _, ?_⟩
  rw [inV_strs, if_neg (by simpa using hn)]
  walk_at "st"
  cases b with
  | true =>
    have hl : s.pl.length < lim := hl
    refine ⟨_, .inl (SqL.of (TKs.at_ gI h1 1 (by decide) rfl)), ?_⟩
    refine ite2 (fun q => ?_) (fun q => ?_)
    · rw [List.length_map] at q
      exact absurd q (by omega)
    · refine ⟨.inl ⟨rfl, _, SqL.of (TKs.at_ gI h1 1 (by decide) rfl)⟩, _, TKs.at_ gI h1 1 (by decide) rfl, by rw [sizeLine_eq, List.length_map]; omega, ?_⟩
      rw [show s.pl.map V.str ++ [V.str x] = (s.pl ++ [x]).map V.str by simp]
      exact k _ _ s1 (TKs.upd gI h1 1 (by decide) rfl (.lst ((s.pl ++ [x]).map V.str)))
  | false =>
    have hl : s.nm.length < lim := hl
    refine ⟨_, .inl (SqL.of (TKs.at_ gI h1 2 (by decide) rfl)), ?_⟩
    refine ite2 (fun q => ?_) (fun q => ?_)
    · rw [List.length_map] at q
      exact absurd q (by omega)
    · refine ⟨.inl ⟨rfl, _, SqL.of (TKs.at_ gI h1 2 (by decide) rfl)⟩, _, TKs.at_ gI h1 2 (by decide) rfl, by rw [sizeLine_eq, List.length_map]; omega, ?_⟩
      rw [show s.nm.map V.str ++ [V.str x] = (s.nm ++ [x]).map V.str by simp]
      exact k _ _ s1 (TKs.upd gI h1 2 (by decide) rfl (.lst ((s.nm ++ [x]).map V.str)))
end
/-! ### text R5 -/
def spPlace (K : PySem.W.Frag) : Sp := fun vs H Q _ => ∃ (I : Hp → List (Addr × HO) → Hp → Prop) (D : Hp) (fr : List (Addr × HO)) (a : RdA) (s : RdN) (x : Str) (rest : List Str), Ground I ∧ vs = [.ref a.x] ∧ RdS I K D fr a s H (x :: rest) ∧ named x = true ∧ x ∈ s.pl ∧
  ∀ (D' H' : Hp) (c : Addr) (u : V), Same D D' → RdS I K D' fr a s H' rest → D' c = some (.tup [.str x, u]) → Q (.ref c) H'
section
variable {P : Program} {w : World} {K : PySem.W.Frag} {mg : Str → Option Value} {base : Heap}
theorem sc_Reader_place : FnScope ["self", "token", "name"] ["self"] (defScope s_Reader_place) := ⟨rfl, rfl, rfl, by decide +kernel, rfl, by decide +kernel, by decide +kernel⟩
theorem c_Reader_place (T : Txt K mg) : C8.Met P w K mg base 8 (He.ga K "Reader") "place" (spPlace K) [] := by
  have h_Tokens_name := c_Tokens_name (P := P) (w := w) (base := base) T
  have h_Tokens_look := c_Tokens_look (P := P) (w := w) (base := base) T
  refine met_mk T.m_Reader_place T.c_Reader sc_Reader_place (fun _ _ _ _ _ _ us hl => match us, hl with | [_], _ => rfl) (fun vs H Q E h => ?_) (fun f cdv A outer s H vs Q E hr h => ?_)
  · obtain ⟨I, D, fr, a, s, x, rest, gI, rfl, _⟩ := h
    rfl
  obtain ⟨I, D, fr, a, s, x, rest, gI, rfl, h, hx, hp, k⟩ := h
  refine ⟨_, (pss_cons (ps_set (i := 1) sc_Reader_place.nd rfl (Or.inl rfl) (C8.pe_mt0 h_Tokens_look hr (by decide) (pe_fld (pv 0) rfl))) (pss_cons (ps_set (i := 2) sc_Reader_place.nd rfl (Or.inl rfl) (C8.pe_mt0 h_Tokens_name hr (by decide) (pe_fld (pv 0) rfl))) (pss_cons (ps_if (pt_cmpR op_notIn_seq (pv 2) (pe_fld (pv 0) rfl) (by rfl)) (pss_one ps_never) pss_nil) (pss_one (ps_ret (pe_tup (pa_cons (pv 2) (pa_cons (pe_ix ix_tup (pv 1) pe_int (fun _ _ => rfl)) pa_nil)))))))), ?_⟩
  show tSeq _ _ _ [some (.ref a.x), none, none] H
  have e0 := TKs.at_ gI h 5 (by decide) rfl
  obtain ⟨dx, z, p, t, e⟩ := TKs.get gI h
  walk_at "st"
  refine ⟨_, _, _, e0, T.c_Reader, T.n_Reader_left, _, rfl, _, rfl, _, _, e, rfl, I, D, _, 0, a.T, _, gI, rfl, h, (fun H' z _ => by cases z), fun D1 H1 c x' rest' q e1 s1 h1 hc _ => ?_⟩
  cases e1
  walk_at "st"
  have e2 := TKs.at_ gI h1 5 (by decide) rfl
  obtain ⟨dx1, z1, p1, t1, e3⟩ := TKs.get gI h1
  walk_at "st"
  refine ⟨_, _, _, e2, T.c_Reader, T.n_Reader_left, _, rfl, _, rfl, _, _, e3, rfl, I, D1, _, 0, a.T, _, _, gI, rfl, h1, hx, fun D2 H2 s2 h2 => ?_⟩
  have e4 := TKs.at_ gI h2 5 (by decide) rfl
  have hc2 := TKs.same gI h2 _ _ (s2 _ _ hc)
  walk_at "st"
  walk_at "st"
  refine ⟨_, _, _, e4, T.c_Reader, T.n_Reader_places, _, rfl, _, rfl, _, .inl (SqL.of (TKs.at_ gI h2 1 (by decide) rfl)), flat_strs _, ?_⟩
  rw [inV_strs]
  refine if_ne (by simp [hp]) ?_
  refine ⟨_, SqT.of hc2, _, rfl, fun p3 n3 => ?_⟩
  obtain ⟨h3, s3⟩ := TKs.new gI h2 n3 (.tup [.str x, vN q])
  exact k _ _ p3 (vN q) (same_tr (same_tr s1 s2) s3) h3 upd_same
end
/-! ### text R6 -/
def oNV : Option Nat → V
  | none => .non
  | some n => vN n
def spRHole (K : PySem.W.Frag) : Sp := fun vs H Q _ => ∃ (I : Hp → List (Addr × HO) → Hp → Prop) (D : Hp) (fr : List (Addr × HO)) (a : RdA) (s : RdN) (lo : Nat) (hi : Option Nat) (ws rest : List Str), Ground I ∧ vs = [.ref a.x] ∧ HoW lo hi ws ∧ RdS I K D fr a s H (ws ++ (";" : Str) :: rest) ∧ lo ≤ 10 ^ 28 ∧ (∀ h, hi = some h → h ≤ 10 ^ 28) ∧
  ∀ (D' H' : Hp) (c : Addr), Same D D' → RdS I K D' fr a s H' ((";" : Str) :: rest) → D' c = some (.tup [vN lo, oNV hi]) → Q (.ref c) H'
section
variable {P : Program} {w : World} {K : PySem.W.Frag} {mg : Str → Option Value} {base : Heap}
theorem sc_Reader_read_hole : FnScope ["self", "low"] ["self"] (defScope s_Reader_read_hole) := ⟨rfl, rfl, rfl, by decide +kernel, rfl, by decide +kernel, by decide +kernel⟩
theorem c_Reader_read_hole (T : Txt K mg) : C8.Met P w K mg base 8 (He.ga K "Reader") "read_hole" (spRHole K) [] := by
  have h_Tokens_is_sign := c_Tokens_is_sign (P := P) (w := w) (base := base) T
  have h_Tokens_advance := c_Tokens_advance (P := P) (w := w) (base := base) T
  have h_Tokens_number := c_Tokens_number (P := P) (w := w) (base := base) T
  have h_Tokens_need := c_Tokens_need (P := P) (w := w) (base := base) T
  refine met_mk T.m_Reader_read_hole T.c_Reader sc_Reader_read_hole (fun _ _ _ _ _ _ us hl => match us, hl with | [_], _ => rfl) (fun vs H Q E h => ?_) (fun f cdv A outer s H vs Q E hr h => ?_)
  · obtain ⟨I, D, fr, a, s, lo, hi, ws, rest, gI, rfl, _⟩ := h
    rfl
  obtain ⟨I, D, fr, a, s, lo, hi, ws, rest, gI, rfl, hw, h, hlo, hhi, k⟩ := h
  refine ⟨_, (pss_cons (ps_if (pt_val (C8.pe_mt h_Tokens_is_sign hr (by decide) (pe_fld (pv 0) rfl) (pa_cons pe_str pa_nil))) (pss_cons (ps_expr (C8.pe_mt0 h_Tokens_advance hr (by decide) (pe_fld (pv 0) rfl))) (pss_one (ps_ret (pe_tup (pa_cons pe_int (pa_cons pe_non pa_nil)))))) pss_nil) (pss_cons (ps_set (i := 1) sc_Reader_read_hole.nd rfl (Or.inl rfl) (C8.pe_mt h_Tokens_number hr (by decide) (pe_fld (pv 0) rfl) (pa_cons (C8.pe_gc rfl T.g_MAX_HOLE) pa_nil))) (pss_cons (ps_if (pt_val (C8.pe_mt h_Tokens_is_sign hr (by decide) (pe_fld (pv 0) rfl) (pa_cons pe_str pa_nil))) (pss_one (ps_ret (pe_tup (pa_cons (pv 1) (pa_cons (pv 1) pa_nil))))) pss_nil) (pss_cons (ps_expr (C8.pe_mt h_Tokens_need hr (by decide) (pe_fld (pv 0) rfl) (pa_cons pe_str pa_nil))) (pss_one (ps_ret (pe_tup (pa_cons (pv 1) (pa_cons (pe_ifExp (pt_val (C8.pe_mt h_Tokens_is_sign hr (by decide) (pe_fld (pv 0) rfl) (pa_cons pe_str pa_nil))) pe_non (C8.pe_mt h_Tokens_number hr (by decide) (pe_fld (pv 0) rfl) (pa_cons (C8.pe_gc rfl T.g_MAX_HOLE) pa_nil))) pa_nil))))))))), ?_⟩
  show tSeq _ _ _ [some (.ref a.x), none] H
  have e0 := TKs.at_ gI h 5 (by decide) rfl
  obtain ⟨dx, z, p, t, e⟩ := TKs.get gI h
  walk_at "st"
  refine ⟨_, _, _, e0, T.c_Reader, T.n_Reader_left, _, rfl, _, rfl, _, _, e, rfl, I, D, _, 0, a.T, _, _, gI, rfl, h, fun D1 H1 s1 h1 => ⟨_, rfl, ?_⟩⟩
  have e1 := TKs.at_ gI h1 5 (by decide) rfl
  obtain ⟨dx1, z1, p1, t1, e2⟩ := TKs.get gI h1
  have num_q : ∀ n, num n ≠ ("?" : Str) := fun n e => absurd (counted_num n) (by rw [e]; decide +kernel)
  have num_s : ∀ n, num n ≠ (";" : Str) := fun n e => absurd (counted_num n) (by rw [e]; decide +kernel)
  cases hw with
  | open0 =>
    refine if_eq (by rfl) ?_
    walk_at "st"
    refine ⟨_, _, _, e1, T.c_Reader, T.n_Reader_left, _, rfl, _, rfl, _, _, e2, rfl, I, D1, _, 0, a.T, _, _, gI, rfl, h1, fun D2 H2 s2 h2 => ?_⟩
    walk_at "st"
    intro p3 n3
    obtain ⟨h3, s3⟩ := TKs.new gI h2 n3 (.tup [.int 0, .non])
    exact k _ _ p3 (same_tr (same_tr s1 s2) s3) h3 upd_same
  | open1 n =>
    refine if_ne (show decide (num lo = ("?" : Str)) = false from decide_eq_false (num_q lo)) ?_
    walk_at "st"
    walk_at "st"
    refine ⟨_, _, _, e1, T.c_Reader, T.n_Reader_left, _, rfl, _, rfl, _, _, e2, rfl, I, D1, _, 0, a.T, lo, 10 ^ 28, _, gI, congrArg (fun v => [V.ref a.T, v]) (congrArg V.int (by decide +kernel)), h1, counted_num lo, hlo, Nat.le_trans hlo (by decide +kernel), fun D2 H2 s2 h2 => ?_⟩
    walk_at "st"
    have f2 := TKs.at_ gI h2 5 (by decide) rfl
    obtain ⟨dx2, z2, p2, t2, g2⟩ := TKs.get gI h2
    walk_at "st"
    refine ⟨_, _, _, f2, T.c_Reader, T.n_Reader_left, _, rfl, _, rfl, _, _, g2, rfl, I, D2, _, 0, a.T, _, _, gI, rfl, h2, fun D3 H3 s3 h3 => ⟨_, rfl, ?_⟩⟩
    refine if_ne (show decide ((".." : Str) = ";") = false from by decide +kernel) ?_
    walk_at "st"
    have f3 := TKs.at_ gI h3 5 (by decide) rfl
    obtain ⟨dx3, z3, p3, t3, g3⟩ := TKs.get gI h3
    walk_at "st"
    refine ⟨_, _, _, f3, T.c_Reader, T.n_Reader_left, _, rfl, _, rfl, _, _, g3, rfl, I, D3, _, 0, a.T, _, _, gI, rfl, h3, fun D4 H4 s4 h4 => ?_⟩
    have f4 := TKs.at_ gI h4 5 (by decide) rfl
    obtain ⟨dx4, z4, p4, t4, g4⟩ := TKs.get gI h4
    walk_at "st"
    refine ⟨_, _, _, f4, T.c_Reader, T.n_Reader_left, _, rfl, _, rfl, _, _, g4, rfl, I, D4, _, 0, a.T, _, _, gI, rfl, h4, fun D5 H5 s5 h5 => ⟨_, rfl, ?_⟩⟩
    refine if_eq (by rfl) ?_
    walk_at "rd"
    intro p9 n9
    obtain ⟨h9, s9⟩ := TKs.new gI h5 n9 (.tup [vN lo, .non])
    exact k _ _ p9 (same_tr (same_tr (same_tr (same_tr (same_tr s1 s2) s3) s4) s5) s9) h9 upd_same
  | one n =>
    refine if_ne (show decide (num lo = ("?" : Str)) = false from decide_eq_false (num_q lo)) ?_
    walk_at "st"
    walk_at "st"
    refine ⟨_, _, _, e1, T.c_Reader, T.n_Reader_left, _, rfl, _, rfl, _, _, e2, rfl, I, D1, _, 0, a.T, lo, 10 ^ 28, _, gI, congrArg (fun v => [V.ref a.T, v]) (congrArg V.int (by decide +kernel)), h1, counted_num lo, hlo, Nat.le_trans hlo (by decide +kernel), fun D2 H2 s2 h2 => ?_⟩
    walk_at "st"
    have f2 := TKs.at_ gI h2 5 (by decide) rfl
    obtain ⟨dx2, z2, p2, t2, g2⟩ := TKs.get gI h2
    walk_at "st"
    refine ⟨_, _, _, f2, T.c_Reader, T.n_Reader_left, _, rfl, _, rfl, _, _, g2, rfl, I, D2, _, 0, a.T, _, _, gI, rfl, h2, fun D3 H3 s3 h3 => ⟨_, rfl, ?_⟩⟩
    refine if_eq (by rfl) ?_
    walk_at "rd"
    intro p9 n9
    obtain ⟨h9, s9⟩ := TKs.new gI h3 n9 (.tup [vN lo, vN lo])
    exact k _ _ p9 (same_tr (same_tr (same_tr s1 s2) s3) s9) h9 upd_same
  | two n m =>
    refine if_ne (show decide (num lo = ("?" : Str)) = false from decide_eq_false (num_q lo)) ?_
    walk_at "st"
    walk_at "st"
    refine ⟨_, _, _, e1, T.c_Reader, T.n_Reader_left, _, rfl, _, rfl, _, _, e2, rfl, I, D1, _, 0, a.T, lo, 10 ^ 28, _, gI, congrArg (fun v => [V.ref a.T, v]) (congrArg V.int (by decide +kernel)), h1, counted_num lo, hlo, Nat.le_trans hlo (by decide +kernel), fun D2 H2 s2 h2 => ?_⟩
    walk_at "st"
    have f2 := TKs.at_ gI h2 5 (by decide) rfl
    obtain ⟨dx2, z2, p2, t2, g2⟩ := TKs.get gI h2
    walk_at "st"
    refine ⟨_, _, _, f2, T.c_Reader, T.n_Reader_left, _, rfl, _, rfl, _, _, g2, rfl, I, D2, _, 0, a.T, _, _, gI, rfl, h2, fun D3 H3 s3 h3 => ⟨_, rfl, ?_⟩⟩
    refine if_ne (show decide ((".." : Str) = ";") = false from by decide +kernel) ?_
    walk_at "st"
    have f3 := TKs.at_ gI h3 5 (by decide) rfl
    obtain ⟨dx3, z3, p3, t3, g3⟩ := TKs.get gI h3
    walk_at "st"
    refine ⟨_, _, _, f3, T.c_Reader, T.n_Reader_left, _, rfl, _, rfl, _, _, g3, rfl, I, D3, _, 0, a.T, _, _, gI, rfl, h3, fun D4 H4 s4 h4 => ?_⟩
    have f4 := TKs.at_ gI h4 5 (by decide) rfl
    obtain ⟨dx4, z4, p4, t4, g4⟩ := TKs.get gI h4
    walk_at "st"
    refine ⟨_, _, _, f4, T.c_Reader, T.n_Reader_left, _, rfl, _, rfl, _, _, g4, rfl, I, D4, _, 0, a.T, _, _, gI, rfl, h4, fun D5 H5 s5 h5 => ⟨_, rfl, ?_⟩⟩
    refine if_ne (show decide ((num m : Str) = ";") = false from decide_eq_false (num_s m)) ?_
    have f5 := TKs.at_ gI h5 5 (by decide) rfl
    obtain ⟨dx5, z5, p5, t5, g5⟩ := TKs.get gI h5
    walk_at "rd"
    refine ⟨_, _, _, f5, T.c_Reader, T.n_Reader_left, _, rfl, _, rfl, _, _, g5, rfl, I, D5, _, 0, a.T, m, 10 ^ 28, _, gI, congrArg (fun v => [V.ref a.T, v]) (congrArg V.int (by decide +kernel)), h5, counted_num m, hhi m rfl, Nat.le_trans (hhi m rfl) (by decide +kernel), fun D6 H6 s6 h6 => ?_⟩
    intro p9 n9
    obtain ⟨h9, s9⟩ := TKs.new gI h6 n9 (.tup [vN lo, vN m])
    exact k _ _ p9 (same_tr (same_tr (same_tr (same_tr (same_tr (same_tr s1 s2) s3) s4) s5) s6) s9) h9 upd_same
end
/-! ### text R7 -/
def spRPlaces (K : PySem.W.Frag) : Sp := fun vs H Q _ => ∃ (I : Hp → List (Addr × HO) → Hp → Prop) (D : Hp) (fr : List (Addr × HO)) (a : RdA) (s : RdN) (pl : List Str) (inn out : Str) (rest : List Str), Ground I ∧ vs = [.ref a.x] ∧ s.pl = [] ∧ s.nm = [] ∧ 2 ≤ pl.length ∧ pl.length ≤ 24 ∧ pl.Nodup ∧ (∀ n ∈ pl, named n = true ∧ PyData.strOk n = true) ∧ inn ∈ pl ∧ out ∈ pl ∧ inn ≠ out ∧
  RdS I K D fr a s H (("places" : Str) :: pl ++ (";" : Str) :: "in" :: inn :: ";" :: "out" :: out :: ";" :: rest) ∧
  ∀ (D' H' : Hp), Same D D' → RdS I K D' fr a { s with pl := pl, f := .str inn, l := .str out } H' rest → Q .non H'
section
variable {P : Program} {w : World} {K : PySem.W.Frag} {mg : Str → Option Value} {base : Heap}
theorem sc_Reader_read_places : FnScope ["self"] ["self"] (defScope s_Reader_read_places) := ⟨rfl, rfl, rfl, by decide +kernel, rfl, by decide +kernel, by decide +kernel⟩
theorem c_Reader_read_places (T : Txt K mg) : C8.Met P w K mg base 9 (He.ga K "Reader") "read_places" (spRPlaces K) [] := by
  have h_Tokens_is_sign := c_Tokens_is_sign (P := P) (w := w) (base := base) T
  have h_Tokens_need := c_Tokens_need (P := P) (w := w) (base := base) T
  have h_Reader_fresh := c_Reader_fresh (P := P) (w := w) (base := base) T true
  have h_Reader_place := c_Reader_place (P := P) (w := w) (base := base) T
  refine met_mk T.m_Reader_read_places T.c_Reader sc_Reader_read_places (fun _ _ _ _ _ _ us hl => match us, hl with | [_], _ => rfl) (fun vs H Q E h => ?_) (fun f cdv A outer s H vs Q E hr h => ?_)
  · obtain ⟨I, D, fr, a, s, pl, inn, out, rest, gI, rfl, _⟩ := h
    rfl
  obtain ⟨I, D, fr, a, s, pl, inn, out, rest, gI, rfl, hp0, hn0, hl2, hl24, nd, hnm, hin, hout, hne, h, k⟩ := h
  refine ⟨_, (pss_cons (ps_expr (C8.pe_mt h_Tokens_need hr (by decide) (pe_fld (pv 0) rfl) (pa_cons pe_str pa_nil))) (pss_cons (ps_expr (C8.pe_mt h_Reader_fresh hr (by decide) (pv 0) (pa_cons (pe_fld (pv 0) rfl) (pa_cons (C8.pe_gc rfl T.g_MAX_PLACES) pa_nil)))) (pss_cons (ps_expr (C8.pe_mt h_Reader_fresh hr (by decide) (pv 0) (pa_cons (pe_fld (pv 0) rfl) (pa_cons (C8.pe_gc rfl T.g_MAX_PLACES) pa_nil)))) (pss_cons (ps_while PassesOwn.never (pt_not (pt_val (C8.pe_mt h_Tokens_is_sign hr (by decide) (pe_fld (pv 0) rfl) (pa_cons pe_str pa_nil)))) (pss_one (ps_expr (C8.pe_mt h_Reader_fresh hr (by decide) (pv 0) (pa_cons (pe_fld (pv 0) rfl) (pa_cons (C8.pe_gc rfl T.g_MAX_PLACES) pa_nil)))))) (pss_cons (ps_expr (C8.pe_mt h_Tokens_need hr (by decide) (pe_fld (pv 0) rfl) (pa_cons pe_str pa_nil))) (pss_cons (ps_expr (C8.pe_mt h_Tokens_need hr (by decide) (pe_fld (pv 0) rfl) (pa_cons pe_str pa_nil))) (pss_cons (ps_fld (pv 0) (pe_ix ix_tup (C8.pe_mt0 h_Reader_place hr (by decide) (pv 0)) pe_int (fun _ _ => rfl)) rfl) (pss_cons (ps_expr (C8.pe_mt h_Tokens_need hr (by decide) (pe_fld (pv 0) rfl) (pa_cons pe_str pa_nil))) (pss_cons (ps_expr (C8.pe_mt h_Tokens_need hr (by decide) (pe_fld (pv 0) rfl) (pa_cons pe_str pa_nil))) (pss_cons (ps_fld (pv 0) (pe_ix ix_tup (C8.pe_mt0 h_Reader_place hr (by decide) (pv 0)) pe_int (fun _ _ => rfl)) rfl) (pss_cons (ps_if (pt_cmpR op_eq (pe_fld (pv 0) rfl) (pe_fld (pv 0) rfl) (nomark _)) (pss_one ps_never) pss_nil) (pss_one (ps_expr (C8.pe_mt h_Tokens_need hr (by decide) (pe_fld (pv 0) rfl) (pa_cons pe_str pa_nil))))))))))))))), ?_⟩
  show tSeq _ _ _ [some (.ref a.x)] H
  have e0 := TKs.at_ gI h 5 (by decide) rfl
  obtain ⟨dx, z, p, t, e⟩ := TKs.get gI h
  walk_at "st"
  refine ⟨_, _, _, e0, T.c_Reader, T.n_Reader_left, _, rfl, _, rfl, _, _, e, rfl, I, D, _, 0, a.T, _, _, gI, rfl, h, fun D1 H1 s1 h1 => ?_⟩
  have f1 := TKs.at_ gI h1 5 (by decide) rfl
  walk_at "st"
  obtain ⟨r0, hr0⟩ : ∃ r0 : List Str, r0 = (";" : Str) :: "in" :: inn :: ";" :: "out" :: out :: ";" :: rest := ⟨_, rfl⟩
  have step : ∀ (n : Nat) (D2 H2 : Hp) (Q2 : VK), n < pl.length → RdS I K D2 fr a { s with pl := pl.take n } H2 (pl.drop n ++ r0) → (∀ D3 H3, Same D2 D3 → RdS I K D3 fr a { s with pl := pl.take (n + 1) } H3 (pl.drop (n + 1) ++ r0) → Q2 .non H3) → spFresh K true [.ref a.x, .ref a.p, vN 24] H2 Q2 C8.E0 := by
    intro n D2 H2 Q2 hn h2 k2
    have hd : pl.drop n = pl[n] :: pl.drop (n + 1) := List.drop_eq_getElem_cons hn
    have ht : pl.take n ++ [pl[n]] = pl.take (n + 1) := (List.take_succ_eq_append_getElem hn).symm
    rw [hd] at h2
    refine ⟨I, D2, fr, a, _, pl[n], pl.drop (n + 1) ++ r0, 24, gI, rfl, h2, (hnm _ (List.getElem_mem hn)).1, ?_, by show _ ∉ s.nm; rw [hn0]; simp, by show (pl.take n).length < 24; rw [List.length_take]; omega, by decide, fun D3 H3 s3 h3 => k2 D3 H3 s3 ?_⟩
    · intro z
      have := List.take_append_drop n pl ▸ nd
      rw [hd] at this
      exact (List.nodup_append.mp this).2.2 _ z _ (List.mem_cons_self) rfl
    · rw [← ht]
      exact h3
  have hr1 : RdS I K D1 fr a { s with pl := pl.take 0 } H1 (pl.drop 0 ++ r0) := by
    rw [hr0, List.take_zero, ← hp0]
    exact h1
  walk_at "st"
  refine ⟨_, _, f1, rfl, ?_⟩
  refine ⟨_, _, _, f1, T.c_Reader, T.n_Reader_places, _, rfl, step 0 D1 H1 _ (by omega) hr1 fun D2 H2 s2 h2 => ?_⟩
  have f2 := TKs.at_ gI h2 5 (by decide) rfl
  walk_at "st"
  refine ⟨_, _, f2, rfl, _, _, _, f2, T.c_Reader, T.n_Reader_places, _, rfl, step 1 D2 H2 _ (by omega) h2 fun D3 H3 s3 h3 => ?_⟩
  walk_at "st"
  obtain ⟨W, hW⟩ : ∃ W : Nat → L2.St → Hp → Prop, W = (fun m σ H' => ∃ (D' : Hp) (n : Nat), σ = [some (.ref a.x)] ∧ Same D D' ∧ RdS I K D' fr a { s with pl := pl.take n } H' (pl.drop n ++ r0) ∧ n ≤ pl.length ∧ m = pl.length - n) := ⟨_, rfl⟩
  refine loop_w W _ (by
    rw [hW]
    exact ⟨_, 2, rfl, same_tr (same_tr s1 s2) s3, h3, hl2, rfl⟩) ?_
  intro m σ H4 hw
  rw [hW] at hw
  obtain ⟨D4, n, rfl, s4, h4, hn4, rfl⟩ := hw
  have f4 := TKs.at_ gI h4 5 (by decide) rfl
  obtain ⟨dx4, z4, p4, t4, g4⟩ := TKs.get gI h4
  walk_at "rd"
  refine ⟨_, _, _, f4, T.c_Reader, T.n_Reader_left, _, rfl, _, rfl, _, _, g4, rfl, I, D4, _, 0, a.T, _, _, gI, rfl, h4, fun D5 H5 s5 h5 => ⟨_, rfl, ?_⟩⟩
  have f5 := TKs.at_ gI h5 5 (by decide) rfl
  by_cases hlt : n < pl.length
  · have hd : pl.drop n = pl[n] :: pl.drop (n + 1) := List.drop_eq_getElem_cons hlt
    have hsn : pl[n] ≠ (";" : Str) := fun z => absurd (hnm _ (List.getElem_mem hlt)).1 (by rw [z]; decide +kernel)
    refine if_eq (by rw [hd]; show (!decide (pl[n] = (";" : Str))) = true; rw [decide_eq_false hsn]; rfl) (stepW fun N hN => ?_)
    walk_at "rd"
    refine ⟨_, _, f5, rfl, _, _, _, f5, T.c_Reader, T.n_Reader_places, _, rfl, step n D5 H5 _ hlt h5 fun D6 H6 s6 h6 => ?_⟩
    exact hN _ _ _ (show pl.length - (n + 1) < pl.length - n by omega) (by
      rw [hW]
      exact ⟨D6, n + 1, rfl, same_tr (same_tr s4 s5) s6, h6, hlt, rfl⟩)
  · have en : n = pl.length := by omega
    subst en
    rw [List.drop_length, List.nil_append, List.take_length] at h5
    refine if_ne (by rw [List.drop_length, List.nil_append, hr0]; rfl) ?_
    rw [hr0] at h5
    obtain ⟨dx5, z5, p5, t5, g5⟩ := TKs.get gI h5
    walk_at "st"
    refine ⟨_, _, _, f5, T.c_Reader, T.n_Reader_left, _, rfl, _, rfl, _, _, g5, rfl, I, D5, _, 0, a.T, _, _, gI, rfl, h5, fun D6 H6 s6 h6 => ?_⟩
    have f6 := TKs.at_ gI h6 5 (by decide) rfl
    obtain ⟨dx6, z6, p6, t6, g6⟩ := TKs.get gI h6
    walk_at "st"
    walk_at "st"
    refine ⟨_, _, _, f6, T.c_Reader, T.n_Reader_left, _, rfl, _, rfl, _, _, g6, rfl, I, D6, _, 0, a.T, _, _, gI, rfl, h6, fun D7 H7 s7 h7 => ?_⟩
    have f7 := TKs.at_ gI h7 5 (by decide) rfl
    walk_at "st"
    walk_at "st"
    refine ⟨_, _, f7, rfl, I, D7, fr, a, _, inn, _, gI, rfl, h7, (hnm inn hin).1, hin, fun D8 H8 c8 u8 s8 h8 hc8 => ?_⟩
    have hc8' := TKs.same gI h8 _ _ hc8
    have f8 := TKs.at_ gI h8 5 (by decide) rfl
    walk_at "rd"
    refine ⟨_, SqT.of hc8', _, rfl, _, _, _, f8, T.c_Reader, T.n_Reader_first, by show 7 < 1000; decide, ?_⟩
    have h9 : RdS I K D8 fr a { s with pl := pl, f := .str inn } _ _ := TKs.upd gI h8 5 (by decide) rfl (rdrO K a.dx (.ref a.T) (.ref a.p) (.ref a.n) (.ref a.o) (.ref a.h) (.str inn) s.l)
    have e9 : Same D8 D8 := same_rfl
    obtain ⟨D9, hD9⟩ : ∃ D9, D9 = D8 := ⟨_, rfl⟩
    rw [← hD9] at h9
    have f9 := TKs.at_ gI h9 5 (by decide) rfl
    obtain ⟨dx9, z9, p9, t9, g9⟩ := TKs.get gI h9
    walk_at "st"
    refine ⟨_, _, _, f9, T.c_Reader, T.n_Reader_left, _, rfl, _, rfl, _, _, g9, rfl, I, D9, _, 0, a.T, _, _, gI, rfl, h9, fun D10 H10 s10 h10 => ?_⟩
    have f10 := TKs.at_ gI h10 5 (by decide) rfl
    obtain ⟨dx10, z10, p10, t10, g10⟩ := TKs.get gI h10
    walk_at "st"
    walk_at "st"
    refine ⟨_, _, _, f10, T.c_Reader, T.n_Reader_left, _, rfl, _, rfl, _, _, g10, rfl, I, D10, _, 0, a.T, _, _, gI, rfl, h10, fun D11 H11 s11 h11 => ?_⟩
    have f11 := TKs.at_ gI h11 5 (by decide) rfl
    walk_at "st"
    walk_at "st"
    refine ⟨_, _, f11, rfl, I, D11, fr, a, _, out, _, gI, rfl, h11, (hnm out hout).1, hout, fun D12 H12 c12 u12 s12 h12 hc12 => ?_⟩
    have hc12' := TKs.same gI h12 _ _ hc12
    have f12 := TKs.at_ gI h12 5 (by decide) rfl
    walk_at "rd"
    refine ⟨_, SqT.of hc12', _, rfl, _, _, _, f12, T.c_Reader, T.n_Reader_last, by show 7 < 1000; decide, ?_⟩
    have h13 : RdS I K D12 fr a { s with pl := pl, f := .str inn, l := .str out } _ _ := TKs.upd gI h12 5 (by decide) rfl (rdrO K a.dx (.ref a.T) (.ref a.p) (.ref a.n) (.ref a.o) (.ref a.h) (.str inn) (.str out))
    have f13 := TKs.at_ gI h13 5 (by decide) rfl
    walk_at "st"
    refine ⟨_, _, _, f13, T.c_Reader, T.n_Reader_last, _, rfl, _, _, _, f13, T.c_Reader, T.n_Reader_first, _, rfl, rfl, ?_⟩
    refine ite2 (fun e => absurd (V.str.inj e).symm hne) (fun _ => ?_)
    obtain ⟨dx13, z13, p13, t13, g13⟩ := TKs.get gI h13
    refine ⟨_, _, _, f13, T.c_Reader, T.n_Reader_left, _, rfl, _, rfl, _, _, g13, rfl, I, D12, _, 0, a.T, _, _, gI, rfl, h13, fun D14 H14 s14 h14 => ?_⟩
    rw [hD9] at s10
    exact k _ _ (same_tr s4 (same_tr s5 (same_tr s6 (same_tr s7 (same_tr s8 (same_tr s10 (same_tr s11 (same_tr s12 s14)))))))) h14
end
/-! ### text R8 -/
theorem if_hi {A : Prop} {hi : Option Nat} {lo : Nat} (h : ∀ x, hi = some x → lo ≤ x) (a : A) : if oNV hi = V.non then A else ∃ i, oNV hi = V.int i ∧ if i < (lo : Int) then False else A := by
  cases hi with
  | none => rw [if_pos (show oNV none = V.non from rfl)]; exact a
  | some x =>
    rw [if_neg (show ¬ oNV (some x) = V.non from fun z => by cases z)]
    have := h x rfl
    exact ⟨_, rfl, by rw [if_neg (by omega)]; exact a⟩
def spRRoad (K : PySem.W.Frag) : Sp := fun vs H Q _ => ∃ (I : Hp → List (Addr × HO) → Hp → Prop) (D : Hp) (fr : List (Addr × HO)) (a : RdA) (s : RdN) (r : Bk.Rd) (ws rest : List Str) (inn out : Str) (es : List (Str × Str)) (rk : Str → Nat), Ground I ∧ vs = [.ref a.x] ∧ s.f = .str inn ∧ s.l = .str out ∧ RdW r ws ∧ RdS I K D fr a s H (ws ++ (";" : Str) :: rest) ∧
  named r.nm = true ∧ r.nm ∉ s.pl ∧ r.nm ∉ s.nm ∧ s.nm.length < 60 ∧ named r.ft = true ∧ r.ft ∈ s.pl ∧ r.ft ≠ out ∧ named r.hd = true ∧ r.hd ∈ s.pl ∧ r.hd ≠ inn ∧ r.lo ≤ 10 ^ 28 ∧ (∀ h, r.hi = some h → r.lo ≤ h ∧ h ≤ 10 ^ 28) ∧
  AtL D s.tv (es.map prD) ∧ es.length ≤ 60 ∧ s.hv.length ≤ 60 ∧ rk r.ft < rk r.hd ∧ (∀ e ∈ es, rk e.1 < rk e.2) ∧ (∀ e ∈ es, PyData.strOk e.2 = true) ∧ PyData.strOk r.hd = true ∧
  ∀ (D' H' : Hp) (c1 c2 : Addr), Same D D' → D' c1 = some (.tup [.str r.ft, .str r.hd]) → D' c2 = some (.tup [vN r.lo, oNV r.hi]) → RdS I K D' fr a { s with nm := s.nm ++ [r.nm], tv := s.tv ++ [.ref c1], hv := s.hv ++ [.ref c2] } H' rest → Q .non H'
section
variable {P : Program} {w : World} {K : PySem.W.Frag} {mg : Str → Option Value} {base : Heap}
theorem sc_Reader_read_road : FnScope ["self", "foot", "spot", "head", "low", "high", "ring"] ["self"] (defScope s_Reader_read_road) := ⟨rfl, rfl, rfl, by decide +kernel, rfl, by decide +kernel, by decide +kernel⟩
theorem c_Reader_read_road (T : Txt K mg) : C8.Met P w K mg base 9 (He.ga K "Reader") "read_road" (spRRoad K) [] := by
  have h_Tokens_need := c_Tokens_need (P := P) (w := w) (base := base) T
  have h_Reader_fresh := c_Reader_fresh (P := P) (w := w) (base := base) T false
  have h_Reader_place := c_Reader_place (P := P) (w := w) (base := base) T
  have h_Reader_read_hole := c_Reader_read_hole (P := P) (w := w) (base := base) T
  have h_ring_of : C8.Cal P w K mg base 1 "ring_of" spRing [] := c_ring_of T
  refine met_mk T.m_Reader_read_road T.c_Reader sc_Reader_read_road (fun _ _ _ _ _ _ us hl => match us, hl with | [_], _ => rfl) (fun vs H Q E h => ?_) (fun f cdv A outer s H vs Q E hr h => ?_)
  · obtain ⟨I, D, fr, a, s, r, ws, rest, inn, out, es, rk, gI, rfl, _⟩ := h
    rfl
  obtain ⟨I, D, fr, a, ⟨spl, snm, stv, shv, sf, sl⟩, r, ws, rest, inn, out, es, rk, gI, rfl, ef, el, hw, h, hnm, hnp, hnn, hnl, hft, hfp, hfo, hhd, hhp, hhi, hlo, hhigh, htv, hel, hhv, hrk, hes, heo, hho, k⟩ := h
  cases ef
  cases el
  cases hw with
  | mk hhw =>
  refine ⟨_, (pss_cons (ps_expr (C8.pe_mt h_Tokens_need hr (by decide) (pe_fld (pv 0) rfl) (pa_cons pe_str pa_nil))) (pss_cons (ps_expr (C8.pe_mt h_Reader_fresh hr (by decide) (pv 0) (pa_cons (pe_fld (pv 0) rfl) (pa_cons (C8.pe_gc rfl T.g_MAX_ROADS) pa_nil)))) (pss_cons (ps_expr (C8.pe_mt h_Tokens_need hr (by decide) (pe_fld (pv 0) rfl) (pa_cons pe_str pa_nil))) (pss_cons (ps_asg (C8.pe_mt0 h_Reader_place hr (by decide) (pv 0)) (pg_tup rfl (pgs_cons (pg_name (i := 1) sc_Reader_read_road.nd rfl (.inl rfl)) (pgs_cons (pg_name (i := 2) sc_Reader_read_road.nd rfl (.inl rfl)) pgs_nil)))) (pss_cons (ps_if (pt_cmpR op_eq (pv 1) (pe_fld (pv 0) rfl) (nomark _)) (pss_one ps_never) pss_nil) (pss_cons (ps_expr (C8.pe_mt h_Tokens_need hr (by decide) (pe_fld (pv 0) rfl) (pa_cons pe_str pa_nil))) (pss_cons (ps_asg (C8.pe_mt0 h_Reader_place hr (by decide) (pv 0)) (pg_tup rfl (pgs_cons (pg_name (i := 3) sc_Reader_read_road.nd rfl (.inl rfl)) (pgs_cons (pg_name (i := 2) sc_Reader_read_road.nd rfl (.inl rfl)) pgs_nil)))) (pss_cons (ps_if (pt_cmpR op_eq (pv 3) (pe_fld (pv 0) rfl) (nomark _)) (pss_one ps_never) pss_nil) (pss_cons (ps_asg (C8.pe_mt0 h_Reader_read_hole hr (by decide) (pv 0)) (pg_tup rfl (pgs_cons (pg_name (i := 4) sc_Reader_read_road.nd rfl (.inl rfl)) (pgs_cons (pg_name (i := 5) sc_Reader_read_road.nd rfl (.inl rfl)) pgs_nil)))) (pss_cons (ps_expr (C8.pe_mt h_Tokens_need hr (by decide) (pe_fld (pv 0) rfl) (pa_cons pe_str pa_nil))) (pss_cons (ps_if (PW.pt (pw_and (pt_cmpR op_notN (pv 5) pe_non (nomark _)) (pw_and1 (pt_cmpR op_lt (pv 5) (pv 4) (nomark _))))) (pss_one ps_never) pss_nil) (pss_cons (ps_set (i := 6) sc_Reader_read_road.nd rfl (Or.inl rfl) (C8.pe_c h_ring_of hr (by decide) rfl (pa_cons (pe_fld (pv 0) rfl) (pa_cons (pv 1) (pa_cons (pv 3) pa_nil))))) (pss_cons (ps_if (pt_cmpR op_notN (pv 6) pe_non (nomark _)) (pss_one ps_never) pss_nil) (pss_cons (ps_expr (pe_bm PySem.F.plainAttrs_list PySem.F.slot_list_append PySem.F.type_list_append mt_append (pe_fld (pv 0) rfl) (pa_cons (pe_tup (pa_cons (pv 1) (pa_cons (pv 3) pa_nil))) pa_nil))) (pss_one (ps_expr (pe_bm PySem.F.plainAttrs_list PySem.F.slot_list_append PySem.F.type_list_append mt_append (pe_fld (pv 0) rfl) (pa_cons (pe_tup (pa_cons (pv 4) (pa_cons (pv 5) pa_nil))) pa_nil)))))))))))))))))), ?_⟩
  show tSeq _ _ _ [some (.ref a.x), none, none, none, none, none, none] H
  have f0 := TKs.at_ gI h 5 (by decide) rfl
  obtain ⟨dx0, z0, p0, t0, g0⟩ := TKs.get gI h
  walk_at "st"
  refine ⟨_, _, _, f0, T.c_Reader, T.n_Reader_left, _, rfl, _, rfl, _, _, g0, rfl, I, D, _, 0, a.T, _, _, gI, rfl, h, fun D1 H1 s1 h1 => ?_⟩
  have f1 := TKs.at_ gI h1 5 (by decide) rfl
  walk_at "st"
  walk_at "st"
  refine ⟨_, _, f1, rfl, _, _, _, f1, T.c_Reader, T.n_Reader_names, _, rfl, I, D1, fr, a, ⟨spl, snm, stv, shv, .str inn, .str out⟩, r.nm, _, 60, gI, rfl, h1, hnm, hnp, hnn, hnl, by decide, fun D2 H2 s2 h2 => ?_⟩
  have f2 := TKs.at_ gI h2 5 (by decide) rfl
  obtain ⟨dx2, z2, p2, t2, g2⟩ := TKs.get gI h2
  walk_at "st"
  walk_at "st"
  refine ⟨_, _, _, f2, T.c_Reader, T.n_Reader_left, _, rfl, _, rfl, _, _, g2, rfl, I, D2, _, 0, a.T, _, _, gI, rfl, h2, fun D3 H3 s3 h3 => ?_⟩
  have f3 := TKs.at_ gI h3 5 (by decide) rfl
  walk_at "st"
  walk_at "st"
  refine ⟨_, _, f3, rfl, I, D3, fr, a, ⟨spl, snm ++ [r.nm], stv, shv, .str inn, .str out⟩, r.ft, _, gI, rfl, h3, hft, hfp, fun D4 H4 c4 u4 s4 h4 hc4 => ?_⟩
  have hc4' := TKs.same gI h4 _ _ hc4
  have f4 := TKs.at_ gI h4 5 (by decide) rfl
  walk_at "rd"
  refine ⟨_, SqT.of hc4', rfl, _, _, rfl, _, _, rfl, rfl, ?_⟩
  obtain ⟨dx4, z4, p4, t4, g4⟩ := TKs.get gI h4
  walk_at "st"
  refine ⟨_, _, _, f4, T.c_Reader, T.n_Reader_last, _, rfl, rfl, ite2 (fun e => absurd (V.str.inj e) hfo) (fun _ => ?_)⟩
  walk_at "st"
  refine ⟨_, _, _, f4, T.c_Reader, T.n_Reader_left, _, rfl, _, rfl, _, _, g4, rfl, I, D4, _, 0, a.T, _, _, gI, rfl, h4, fun D5 H5 s5 h5 => ?_⟩
  have f5 := TKs.at_ gI h5 5 (by decide) rfl
  walk_at "st"
  walk_at "st"
  refine ⟨_, _, f5, rfl, I, D5, fr, a, ⟨spl, snm ++ [r.nm], stv, shv, .str inn, .str out⟩, r.hd, _, gI, rfl, h5, hhd, hhp, fun D6 H6 c6 u6 s6 h6 hc6 => ?_⟩
  have hc6' := TKs.same gI h6 _ _ hc6
  have f6 := TKs.at_ gI h6 5 (by decide) rfl
  walk_at "rd"
  refine ⟨_, SqT.of hc6', rfl, _, _, rfl, _, _, rfl, rfl, ?_⟩
  walk_at "st"
  refine ⟨_, _, _, f6, T.c_Reader, T.n_Reader_first, _, rfl, rfl, ite2 (fun e => absurd (V.str.inj e) hhi) (fun _ => ?_)⟩
  walk_at "st"
  refine ⟨_, _, f6, rfl, I, D6, fr, a, ⟨spl, snm ++ [r.nm], stv, shv, .str inn, .str out⟩, r.lo, r.hi, _, rest, gI, rfl, hhw, h6, hlo, fun x hx => (hhigh x hx).2, fun D7 H7 c7 s7 h7 hc7 => ?_⟩
  have hc7' := TKs.same gI h7 _ _ hc7
  have f7 := TKs.at_ gI h7 5 (by decide) rfl
  obtain ⟨dx7, z7, p7, t7, g7⟩ := TKs.get gI h7
  walk_at "rd"
  refine ⟨_, SqT.of hc7', rfl, _, _, rfl, _, _, rfl, rfl, ?_⟩
  walk_at "st"
  refine ⟨_, _, _, f7, T.c_Reader, T.n_Reader_left, _, rfl, _, rfl, _, _, g7, rfl, I, D7, _, 0, a.T, _, _, gI, rfl, h7, fun D8 H8 s8 h8 => ?_⟩
  have f8 := TKs.at_ gI h8 5 (by decide) rfl
  walk_at "st"
  walk_at "st"
  refine if_hi (fun x hx => (hhigh x hx).1) ?_
  have s08 := same_tr s1 (same_tr s2 (same_tr s3 (same_tr s4 (same_tr s5 (same_tr s6 (same_tr s7 s8))))))
  walk_at "st"
  obtain ⟨o8, hj8, hI8, ht8⟩ := h8
  refine ⟨_, _, _, f8, T.c_Reader, T.n_Reader_told, _, rfl, I, D8, _, a.o, stv, es, r.ft, r.hd, rk, gI, rfl, hI8, .inr (List.mem_of_getElem? (i := 3) rfl), htv.up s08, Nat.le_trans hel (by decide), hrk, hes, heo, hho, fun D9 H9 s9 hI9 => ?_⟩
  have h9 : RdS I K D9 fr a ⟨spl, snm ++ [r.nm], stv, shv, .str inn, .str out⟩ H9 rest := ⟨o8, hj8, hI9, ht8.up s9⟩
  have f9 := TKs.at_ gI h9 5 (by decide) rfl
  walk_at "st"
  walk_at "st"
  walk_at "st"
  have hsl : stv.length = es.length := by
    have := htv.len
    rw [List.length_map] at this
    exact this
  have hhv2 : shv.length ≤ 60 := hhv
  refine ⟨_, _, _, f9, T.c_Reader, T.n_Reader_told, _, rfl, .inl ⟨rfl, _, SqL.of (TKs.at_ gI h9 3 (by decide) rfl)⟩, fun p10 n10 => ?_⟩
  obtain ⟨h10, s10⟩ := TKs.new gI h9 n10 (.tup [.str r.ft, .str r.hd])
  refine ⟨_, rfl, _, TKs.at_ gI h10 3 (by decide) rfl, szl (show stv.length < 100000 by omega), ?_⟩
  have h11 : RdS I K (upd D9 p10 (.tup [.str r.ft, .str r.hd])) fr a ⟨spl, snm ++ [r.nm], stv ++ [.ref p10], shv, .str inn, .str out⟩ _ rest := TKs.upd gI h10 3 (by decide) rfl (.lst (stv ++ [V.ref p10]))
  have f11 := TKs.at_ gI h11 5 (by decide) rfl
  walk_at "st"
  refine ⟨_, _, _, f11, T.c_Reader, T.n_Reader_holes, _, rfl, .inl ⟨rfl, _, SqL.of (TKs.at_ gI h11 4 (by decide) rfl)⟩, fun p12 n12 => ?_⟩
  obtain ⟨h12, s12⟩ := TKs.new gI h11 n12 (.tup [vN r.lo, oNV r.hi])
  refine ⟨_, rfl, _, TKs.at_ gI h12 4 (by decide) rfl, szl (show shv.length < 100000 by omega), ?_⟩
  have h13 : RdS I K (upd (upd D9 p10 (.tup [.str r.ft, .str r.hd])) p12 (.tup [vN r.lo, oNV r.hi])) fr a ⟨spl, snm ++ [r.nm], stv ++ [.ref p10], shv ++ [.ref p12], .str inn, .str out⟩ _ rest := TKs.upd gI h12 4 (by decide) rfl (.lst (shv ++ [V.ref p12]))
  exact k _ _ p10 p12 (same_tr s08 (same_tr s9 (same_tr s10 s12))) (s12 _ _ upd_same) upd_same h13
end
/-! ### text R9 -/
/-- the reader when all places and roads are read: it stays as it is -/
def RdC (K : PySem.W.Frag) (D : Hp) (x T : Addr) : Prop := ∃ dx p n o h f l, D x = some (rdrO K dx (.ref T) p n o h f l)
theorem RdC.up {K : PySem.W.Frag} {D D' : Hp} {x T : Addr} (h : RdC K D x T) (s : Same D D') : RdC K D' x T := by
  obtain ⟨dx, p, n, o, h, f, l, e⟩ := h
  exact ⟨dx, p, n, o, h, f, l, s _ _ e⟩
theorem semi_named (rest : List Str) : headB named ((";" : Str) :: rest) = false := by
  show named ";" = false
  decide +kernel
def spRKnown (K : PySem.W.Frag) : Sp := fun vs H Q _ => ∃ (I : Hp → List (Addr × HO) → Hp → Prop) (D : Hp) (fr : List (Addr × HO)) (j : Nat) (T x W pn p pr : Addr) (names : List Str) (rx : List V) (many : Nat) (es : List (Nat × Nat)) (k : Nat × List Nat) (rest : List Str), Ground I ∧ vs = [.ref x, .ref W] ∧
  TKs I K D fr j T H (("known" : Str) :: num k.1 :: (":" : Str) :: (k.2.map (nmAt names) ++ (";" : Str) :: rest)) ∧ RdC K D x T ∧ WdAt K D W T pn names (.ref p) ∧ NamesOk names ∧ NetAt D p pr rx many es ∧ 1 ≤ k.1 ∧ k.1 ≤ 10 ^ 30 ∧ (∀ i ∈ k.2, i < names.length) ∧ k.2 ≠ [] ∧ k.2.length ≤ 60 ∧ Path es 0 k.2 (many - 1) ∧ 1 ≤ many ∧ es.length ≤ 1000 ∧
  ∀ (D' H' : Hp) (v : V), Same D D' → TKs I K D' fr j T H' rest → At D' v (.tuple [tup1 k.2, iN k.1]) → Q v H'
def spRAsk (K : PySem.W.Frag) : Sp := fun vs H Q _ => ∃ (I : Hp → List (Addr × HO) → Hp → Prop) (D : Hp) (fr : List (Addr × HO)) (j : Nat) (T x W pn p pr : Addr) (names : List Str) (rx : List V) (many : Nat) (es : List (Nat × Nat)) (a : As) (ws rest : List Str) (n : Nat), Ground I ∧ vs = [.ref x, .ref W, vN n] ∧
  TKs I K D fr j T H (ws ++ (";" : Str) :: rest) ∧ RdC K D x T ∧ WdAt K D W T pn names (.ref p) ∧ NamesOk names ∧ NetAt D p pr rx many es ∧ AsW names a ws ∧ AsG names.length a ∧ (∀ q, asQ a = some q → QuOk es q ∧ QuG es.length q) ∧ (∀ s, a = .say s → s.nots ≤ 8) ∧ n < 40 ∧ es.length ≤ 1000 ∧
  ∀ (D' H' : Hp) (v : V), Same D D' → TKs I K D' fr j T H' rest → At D' v a.d → Q v H'
section
variable {P : Program} {w : World} {K : PySem.W.Frag} {mg : Str → Option Value} {base : Heap}
theorem sc_Reader_read_known : FnScope ["self", "words", "trip", "times"] ["self", "words"] (defScope s_Reader_read_known) := ⟨rfl, rfl, rfl, by decide +kernel, rfl, by decide +kernel, by decide +kernel⟩
theorem c_Reader_read_known (T : Txt K mg) : C8.Met P w K mg base 10 (He.ga K "Reader") "read_known" (spRKnown K) [] := by
  have h_Tokens_need := c_Tokens_need (P := P) (w := w) (base := base) T
  have h_Words_trip : C8.Met P w K mg base 9 (He.ga K "Words") "trip" (spWT K) [] := c_Words_trip T
  have h_trip_error : C8.Cal P w K mg base 3 "trip_error" spTripErr [] := c_trip_error T
  refine met_mk T.m_Reader_read_known T.c_Reader sc_Reader_read_known (fun _ _ _ _ _ _ us hl => match us, hl with | [_, _], _ => rfl) (fun vs H Q E h => ?_) (fun f cdv A outer s H vs Q E hr h => ?_)
  · obtain ⟨I, D, fr, j, Tk, x, W, pn, p, pr, names, rx, many, es, k, rest, gI, rfl, _⟩ := h
    rfl
  obtain ⟨I, D, fr, j, Tk, x, W, pn, p, pr, names, rx, many, es, ⟨kn, kt⟩, rest, gI, rfl, h, hx, hw, hno, hnet, hk1, hk30, hki, hkne, hkl, hkp, hmany, hel, k⟩ := h
  refine ⟨_, (pss_cons (ps_expr (C8.pe_mt h_Tokens_need hr (by decide) (pe_fld (pv 0) rfl) (pa_cons pe_str pa_nil))) (pss_cons (ps_asg (C8.pe_mt0 h_Words_trip hr (by decide) (pv 1)) (pg_tup rfl (pgs_cons (pg_name (i := 2) sc_Reader_read_known.nd rfl (.inl rfl)) (pgs_cons (pg_name (i := 3) sc_Reader_read_known.nd rfl (.inl rfl)) pgs_nil)))) (pss_cons (ps_expr (C8.pe_mt h_Tokens_need hr (by decide) (pe_fld (pv 0) rfl) (pa_cons pe_str pa_nil))) (pss_cons (ps_if (PW.pt (pw_or (pt_cmpR op_eq (pv 3) pe_int (nomark _)) (pw_or1 (pt_cmpR op_notN (C8.pe_c h_trip_error hr (by decide) rfl (pa_cons (pe_fld (pv 1) rfl) (pa_cons (pv 2) pa_nil))) pe_non (nomark _))))) (pss_one ps_never) pss_nil) (pss_one (ps_ret (pe_tup (pa_cons (pv 2) (pa_cons (pv 3) pa_nil))))))))), ?_⟩
  show tSeq _ _ _ [some (.ref x), some (.ref W), none, none] H
  obtain ⟨xdx, xp, xn, xo, xh, xf, xl, ex⟩ := hx
  obtain ⟨wdx, hW, hpn⟩ := id hw
  have x0 := h.same gI _ _ ex
  obtain ⟨dx0, z0, p0, t0, g0⟩ := h.get gI
  walk_at "st"
  refine ⟨_, _, _, x0, T.c_Reader, T.n_Reader_left, _, rfl, _, rfl, _, _, g0, rfl, I, D, fr, j, Tk, _, _, gI, rfl, h, fun D1 H1 s1 h1 => ?_⟩
  have w1 := h1.same gI _ _ (s1 _ _ hW)
  walk_at "st"
  walk_at "st"
  refine ⟨_, _, w1, rfl, I, D1, fr, j, Tk, W, pn, names, .ref p, kn, kt, _, gI, rfl, h1, hw.up s1, hno, hk30, hki, hkne, Nat.le_trans hkl (by decide), semi_named _, fun D2 H2 v2 s2 h2 hv2 => ?_⟩
  have s12 := same_tr s1 s2
  obtain ⟨c2, u2, y2, rfl, hc2, hu2, hy2⟩ := tu2_at hv2
  obtain ⟨pt, rfl, hpt⟩ := t1_at hu2
  obtain rfl := hy2.int_is
  have x2 := h2.same gI _ _ (s12 _ _ ex)
  obtain ⟨dx2, z2, p2, t2, g2⟩ := h2.get gI
  walk_at "rd"
  refine ⟨_, SqT.of (h2.same gI _ _ hc2), rfl, _, _, rfl, _, _, rfl, rfl, ?_⟩
  walk_at "st"
  refine ⟨_, _, _, x2, T.c_Reader, T.n_Reader_left, _, rfl, _, rfl, _, _, g2, rfl, I, D2, fr, j, Tk, _, _, gI, rfl, h2, fun D3 H3 s3 h3 => ?_⟩
  have s13 := same_tr s12 s3
  walk_at "st"
  walk_at "st"
  refine ite2 (fun e => absurd e (by omega)) (fun _ => ?_)
  have w3 := h3.same gI _ _ (s13 _ _ hW)
  obtain ⟨o3, hj3, hI3, ht3⟩ := h3
  refine ⟨_, _, _, w3, T.c_Words, T.n_Words_ground, _, rfl, I, D3, _, p, pr, pt, rx, many, es, kt, gI, rfl, hI3, hnet.up s13, s3 _ _ hpt, hkne, hkl, hkp, hmany, hel, fun D4 H4 s4 h4 => ?_⟩
  refine ite2 (fun _ => ?_) (fun e => absurd rfl e)
  intro p5 n5
  have h4 : TKs I K D4 fr j Tk H4 rest := ⟨o3, hj3, h4, ht3.up s4⟩
  obtain ⟨h5, s5⟩ := h4.new gI n5 (.tup [.ref pt, vN kn])
  exact k _ _ _ (same_tr s13 (same_tr s4 s5)) h5 (.tup upd_same (.cons (.tup (s5 _ _ (s4 _ _ (s3 _ _ hpt))) (AtL.nats.mpr rfl)) (.cons (.int _) .nil)))
theorem sc_Reader_read_ask : FnScope ["self", "words", "many", "ask"] ["self", "words", "many"] (defScope s_Reader_read_ask) := ⟨rfl, rfl, rfl, by decide +kernel, rfl, by decide +kernel, by decide +kernel⟩
theorem c_Reader_read_ask (T : Txt K mg) : C8.Met P w K mg base 12 (He.ga K "Reader") "read_ask" (spRAsk K) [] := by
  have h_Tokens_is_sign := c_Tokens_is_sign (P := P) (w := w) (base := base) T
  have h_Tokens_need := c_Tokens_need (P := P) (w := w) (base := base) T
  have h_Words_ask : C8.Met P w K mg base 11 (He.ga K "Words") "ask" (spWA K) [] := c_Words_ask T
  have h_need_question : C8.Cal P w K mg base 5 "need_question" spNeedQ [] := c_need_question T
  have h_asked_question : C8.Cal P w K mg base 1 "asked_question" spAskedQ [] := c_asked_question T
  refine met_mk T.m_Reader_read_ask T.c_Reader sc_Reader_read_ask (fun _ _ _ _ _ _ us hl => match us, hl with | [_, _, _], _ => rfl) (fun vs H Q E h => ?_) (fun f cdv A outer s H vs Q E hr h => ?_)
  · obtain ⟨I, D, fr, j, Tk, x, W, pn, p, pr, names, rx, many, es, a, ws, rest, n, gI, rfl, _⟩ := h
    rfl
  obtain ⟨I, D, fr, j, Tk, x, W, pn, p, pr, names, rx, many, es, a, ws, rest, n, gI, rfl, h, hx, hw, hno, hnet, haw, hag, haq, ha8, hn40, hel, k⟩ := h
  refine ⟨_, (pss_cons (ps_if (PW.pt (pw_and (pt_cmpR op_eq (pv 2) (C8.pe_gc rfl T.g_MAX_ASKS) (nomark _)) (pw_and1 (PW.pt (pw_or (pt_val (C8.pe_mt h_Tokens_is_sign hr (by decide) (pe_fld (pv 0) rfl) (pa_cons pe_str pa_nil))) (pw_or1 (pt_val (C8.pe_mt h_Tokens_is_sign hr (by decide) (pe_fld (pv 0) rfl) (pa_cons pe_str pa_nil))))))))) (pss_one ps_never) pss_nil) (pss_cons (ps_set (i := 3) sc_Reader_read_ask.nd rfl (Or.inl rfl) (C8.pe_mt0 h_Words_ask hr (by decide) (pv 1))) (pss_cons (ps_expr (C8.pe_mt h_Tokens_need hr (by decide) (pe_fld (pv 0) rfl) (pa_cons pe_str pa_nil))) (pss_cons (ps_expr (C8.pe_c h_need_question hr (by decide) rfl (pa_cons (pe_fld (pv 1) rfl) (pa_cons (C8.pe_c h_asked_question hr (by decide) rfl (pa_cons (pv 3) pa_nil)) pa_nil)))) (pss_one (ps_ret (pv 3))))))), ?_⟩
  show tSeq _ _ _ [some (.ref x), some (.ref W), some (vN n), none] H
  obtain ⟨xdx, xp, xn, xo, xh, xf, xl, ex⟩ := hx
  obtain ⟨wdx, hW, hpn⟩ := id hw
  have x0 := h.same gI _ _ ex
  have w0 := h.same gI _ _ hW
  obtain ⟨dx0, z0, p0, t0, g0⟩ := h.get gI
  walk_at "st"
  rw [if_neg (by omega)]
  walk_at "st"
  refine ⟨_, _, w0, rfl, I, D, fr, j, Tk, W, pn, names, .ref p, a, ws, _, gI, rfl, h, hw, hno, haw, hag, semi_named _, fun D1 H1 v1 s1 h1 hv1 => ?_⟩
  have x1 := h1.same gI _ _ (s1 _ _ ex)
  obtain ⟨dx1, z1, p1, t1, g1⟩ := h1.get gI
  walk_at "st"
  walk_at "st"
  refine ⟨_, _, _, x1, T.c_Reader, T.n_Reader_left, _, rfl, _, rfl, _, _, g1, rfl, I, D1, fr, j, Tk, _, _, gI, rfl, h1, fun D2 H2 s2 h2 => ?_⟩
  have s12 := same_tr s1 s2
  have w2 := h2.same gI _ _ (s12 _ _ hW)
  walk_at "st"
  walk_at "st"
  obtain ⟨o2, hj2, hI2, ht2⟩ := h2
  refine ⟨_, _, _, w2, T.c_Words, T.n_Words_ground, _, rfl, I, D2, _, v1, a, gI, rfl, hI2, hv1.up s2, ha8, fun D3 H3 v3 s3 h3 hv3 => ?_⟩
  refine ⟨I, D3, _, p, pr, v3, rx, many, es, asQ a, gI, rfl, h3, hnet.up (same_tr s12 s3), hv3, haq, hel, fun D4 H4 s4 h4 => ?_⟩
  have h5 : TKs I K D4 fr j Tk H4 rest := ⟨o2, hj2, h4, ht2.up (same_tr s3 s4)⟩
  exact k _ _ _ (same_tr s12 (same_tr s3 s4)) h5 (hv1.up (same_tr s2 (same_tr s3 s4)))
end
/-! ### text W4 -/
/-! ## what the defs ask of a good deal -/
theorem up_len {n : Nat} : ∀ {t : List Nat} {a : Nat}, (∀ i ∈ t, a ≤ i ∧ i < n) → t.Pairwise (· < ·) → t.length ≤ n - a
  | [], _, _, _ => Nat.zero_le _
  | x :: t, a, h, hp => by
    rw [List.pairwise_cons] at hp
    have ih := up_len (t := t) (a := x + 1) (fun i hi => ⟨hp.1 i hi, (h i (List.mem_cons_of_mem _ hi)).2⟩) hp.2
    have := h x List.mem_cons_self
    rw [List.length_cons]
    omega
section
variable {α : Type} {es : List (α × α)}
theorem QuOk.lt (hn : es.length ≤ 60) {q : Qu} (h : QuOk es q) : q.Lt es.length := by
  cases h with
  | along h1 h2 =>
    obtain ⟨_, u, v, p⟩ := h1
    exact ⟨p.ltE, by omega⟩
  | touch h1 h2 h3 =>
    have := up_len (a := 0) (fun i hi => ⟨Nat.zero_le _, h2 i hi⟩) h3
    exact ⟨h2, by omega⟩
  | both h1 h2 => exact ⟨h1, h2⟩
theorem QuOk.g (hn : es.length ≤ 60) {q : Qu} (h : QuOk es q) : QuG es.length q := by
  have hl := h.lt hn
  cases h with
  | along h1 h2 => exact ⟨h1.1, hl.1, hl.2⟩
  | touch h1 h2 h3 => exact ⟨h1, hl.1, hl.2, h3⟩
  | both h1 h2 => exact ⟨h1, h2⟩
theorem SaOk.lt (hn : es.length ≤ 60) {s : Sa} (h : SaOk es s) : s.Lt es.length := by
  induction h with
  | least h1 h2 => exact ⟨h1, h2.lt hn⟩
  | most h1 h2 => exact ⟨h1, h2.lt hn⟩
  | follow h1 h2 => exact ⟨h1, h2⟩
  | no _ ih => exact ih
theorem SaOk.g (hn : es.length ≤ 60) {s : Sa} (h : SaOk es s) : SaG es.length s := by
  induction h with
  | least h1 h2 => exact ⟨h1, h2.g hn⟩
  | most h1 h2 => exact ⟨h1, h2.g hn⟩
  | follow h1 h2 => exact ⟨h1, h2⟩
  | no _ ih => exact ih
theorem AsOk.lt (hn : es.length ≤ 60) {a : As} (h : AsOk es a) : a.Lt es.length := by
  cases h with
  | least h => exact h.lt hn
  | most h => exact h.lt hn
  | followers h => exact h
  | sure => exact True.intro
  | say h1 h2 => exact ⟨h1.lt hn, h2⟩
theorem AsOk.g (hn : es.length ≤ 60) {a : As} (h : AsOk es a) : AsG es.length a := by
  cases h with
  | least h => exact h.g hn
  | most h => exact h.g hn
  | followers h => exact h
  | sure => exact True.intro
  | say h1 h2 => exact ⟨h1.g hn, h2⟩
end
theorem Nm.named {x : Str} (h : Nm x) : named x = true := by
  obtain ⟨c, cs, e, hc, _⟩ := h.first
  have hk : kindOf x = "word" := by
    unfold kindOf cds
    rw [e]
    show (if letter c = true then _ else _) = _
    rw [if_pos hc]
  unfold Bk.named
  rw [hk, decide_eq_false h.noKw]
  rfl
section
variable {d : Deal}
theorem Deal.ends_len : d.ends.length = d.roads.length := List.length_map _
theorem Deal.names_len : d.names.length = d.roads.length := List.length_map _
theorem Deal.Ok.askLt (h : d.Ok) : ∀ a ∈ d.asks, a.Lt d.roads.length := fun a ha => by
  have := (h.asks a ha).lt h.endsN
  rw [Deal.ends_len] at this
  exact this
theorem Deal.Ok.knLt (h : d.Ok) : ∀ k ∈ d.known, k.2.length ≤ 1000 ∧ ∀ i ∈ k.2, i < d.roads.length := fun k hk => by
  obtain ⟨_, _, h3, _, h5⟩ := h.known k hk
  refine ⟨by omega, fun i hi => ?_⟩
  have := h5.ltE i hi
  rw [Deal.ends_len] at this
  exact this
theorem Deal.Ok.linesOk (h : d.Ok) : LinesOk d := by
  have b : (10 : Nat) ^ 28 ≤ 10 ^ 30 := by decide +kernel
  refine ⟨Nat.le_trans h.few (by decide), Nat.le_trans h.roadsN (by decide), Nat.le_trans h.knownN (by decide), Nat.le_trans h.asksN (by decide), fun r hr => ?_, fun k hk => ?_, h.askLt⟩
  · obtain ⟨h1, h2⟩ := h.hole r hr
    exact ⟨Nat.le_trans h1 b, fun x hx => Nat.le_trans (h2 x hx).2 b⟩
  · exact ⟨(h.known k hk).2.1, h.knLt k hk⟩
theorem Deal.Ok.madeOk (h : d.Ok) : MadeOk d :=
  ⟨h.ordOk, fun r hr => ⟨h.memO (h.foot r hr).1, h.memO (h.head r hr).1⟩, Nat.le_trans h.knownN (by decide)⟩
theorem Deal.Ok.namesOk (h : d.Ok) : NamesOk d.names :=
  ⟨h.ndN, fun x hx => (h.nms x (List.mem_append_right _ hx)).named, Nat.le_trans h.namesN (by decide)⟩
/-- the known ways and what is asked, by the numbers of the places -/
theorem Deal.iE_len : d.iE.length = d.roads.length := by
  unfold Deal.iE
  rw [mapE_len, Deal.ends_len]
theorem Deal.Ok.knPath (h : d.Ok) : ∀ k ∈ d.known, Path d.iE 0 k.2 (d.order.length - 1) := fun k hk => by
  have := (h.known k hk).2.2.2.2.mapE (fun x => d.order.idxOf x)
  rw [h.idxIn, h.idxOut.1] at this
  exact this
theorem Deal.Ok.asOk (h : d.Ok) : ∀ a ∈ d.asks, AsOk d.iE a := fun a ha => (h.asks a ha).mapE _
theorem Deal.Ok.asG (h : d.Ok) : ∀ a ∈ d.asks, AsG d.iE.length a := fun a ha => (h.asOk a ha).g (by rw [Deal.iE_len]; exact h.roadsN)
end
theorem saQ_ok {α : Type} {es : List (α × α)} {s : Sa} (h : SaOk es s) : ∀ q, saQ s = some q → QuOk es q := by
  induction h with
  | least h1 h2 => intro q e; cases e; exact h2
  | most h1 h2 => intro q e; cases e; exact h2
  | follow h1 h2 => intro q e; cases e
  | no _ ih => exact ih
theorem asQ_ok {α : Type} {es : List (α × α)} {a : As} (h : AsOk es a) : ∀ q, asQ a = some q → QuOk es q := by
  cases h with
  | least h => intro q e; cases e; exact h
  | most h => intro q e; cases e; exact h
  | followers h => intro q e; cases e
  | sure => intro q e; cases e
  | say h1 h2 => exact saQ_ok h1
/-! ### text S0 -/
/-! ## the rows one behind the other -/
theorem Rows.get {α : Type} {R : α → List Str → Prop} : ∀ {as : List α} {ws : List (List Str)}, Rows R as ws → ws.length = as.length ∧ ∀ (i : Nat) (a : α), as[i]? = some a → ∃ w, R a w ∧ ws[i]? = some (w ++ sc1)
  | _, _, .nil => ⟨rfl, fun i a h => by simp at h⟩
  | _, _, .cons r t => by
    obtain ⟨h1, h2⟩ := t.get
    refine ⟨by rw [List.length_cons, List.length_cons, h1], fun i a h => ?_⟩
    cases i with
    | zero =>
      cases (Option.some.inj (show some _ = some a from h))
      exact ⟨_, r, rfl⟩
    | succ i => exact h2 i a h
theorem flat_at {ws : List (List Str)} {i : Nat} {w : List Str} (h : ws[i]? = some (w ++ sc1)) (r : List Str) : (ws.drop i).flatten ++ r = w ++ (";" : Str) :: ((ws.drop (i + 1)).flatten ++ r) := by
  obtain ⟨hl, he⟩ := List.getElem?_eq_some_iff.mp h
  rw [List.drop_eq_getElem_cons hl, he, List.flatten_cons, List.append_assoc, List.append_assoc] <;> rfl
theorem flat_end {ws : List (List Str)} {i : Nat} (h : ws.length ≤ i) (r : List Str) : (ws.drop i).flatten ++ r = r := by
  rw [List.drop_eq_nil_of_le h] <;> rfl
/-- the next word is another -/
def Oth (s : Str) (ts : List Str) : Prop := headB (fun x => decide (x = s)) ts = false
theorem Oth.nil {s : Str} : Oth s [] := rfl
theorem Oth.cons {s x : Str} {ts : List Str} (h : x ≠ s) : Oth s (x :: ts) := decide_eq_false h
theorem Oth.rows {α : Type} {R : α → List Str → Prop} {s : Str} {as : List α} {ws : List (List Str)} (h : Rows R as ws) (hr : ∀ a w, R a w → ∃ y t, w = y :: t ∧ y ≠ s) {r : List Str} (hs : Oth s r) : Oth s (ws.flatten ++ r) := by
  cases h with
  | nil => exact hs
  | cons h1 h2 =>
    obtain ⟨y, t, rfl, hy⟩ := hr _ _ h1
    exact Oth.cons hy
theorem knW_first {names : List Str} {s : Str} (h : ("known" : Str) ≠ s) : ∀ (k : Nat × List Nat) (w : List Str), w = knW names k → ∃ y t, w = y :: t ∧ y ≠ s := fun k w e => ⟨_, _, e, h⟩
theorem asW_first {names : List Str} {s : Str} (h1 : ("ask" : Str) ≠ s) (h2 : ("say" : Str) ≠ s) : ∀ (a : As) (w : List Str), AsW names a w → ∃ y t, w = y :: t ∧ y ≠ s := fun a w h => by
  cases h with
  | least _ => exact ⟨_, _, rfl, h1⟩
  | most _ => exact ⟨_, _, rfl, h1⟩
  | followers _ => exact ⟨_, _, rfl, h1⟩
  | sure => exact ⟨_, _, rfl, h1⟩
  | say _ => exact ⟨_, _, rfl, h2⟩
theorem asW_ne {names : List Str} {a : As} {w : List Str} (h : AsW names a w) : w ≠ [] := by
  obtain ⟨y, t, e, _⟩ := asW_first (s := "") (by decide +kernel) (by decide +kernel) a w h
  rw [e]
  exact List.cons_ne_nil _ _
theorem Told.flat {d : Deal} {rows : List (List Str)} (h : Told d rows) : ∃ rw_ kw aw, Rows RdW d.roads rw_ ∧ Rows (fun k w => w = knW d.names k) d.known kw ∧ Rows (AsW d.names) d.asks aw ∧
    rows.flatten = (("places" : Str) :: d.places ++ (";" : Str) :: "in" :: d.inn :: ";" :: "out" :: d.out :: ";" :: (rw_.flatten ++ (kw.flatten ++ aw.flatten))) := by
  obtain ⟨rw_, kw, aw, h1, h2, h3, e⟩ := h
  refine ⟨rw_, kw, aw, h1, h2, h3, ?_⟩
  rw [e, List.flatten_cons, List.flatten_cons, List.flatten_cons, List.flatten_append, List.flatten_append]
  simp [sc1]
/-! ## the reader comes to rest -/
section
variable {I : Hp → List (Addr × HO) → Hp → Prop} {K : PySem.W.Frag} {D H : Hp} {fr : List (Addr × HO)} {a : RdA} {s : RdN} {ts : List Str}
theorem RdS.close (gI : Ground I) (h : RdS I K D fr a s H ts) : ∃ D', Same D D' ∧ TKs I K D' ((a.T, .lst []) :: fr) 0 a.T H ts ∧ D' a.p = some (.lst (s.pl.map V.str)) ∧ D' a.n = some (.lst (s.nm.map V.str)) ∧ D' a.o = some (.lst s.tv) ∧ D' a.h = some (.lst s.hv) ∧
    D' a.x = some (rdrO K a.dx (.ref a.T) (.ref a.p) (.ref a.n) (.ref a.o) (.ref a.h) s.f s.l) := by
  obtain ⟨o, hj, hI, ht⟩ := h
  have h1 : I D ((a.p, .lst (s.pl.map V.str)) :: (a.n, .lst (s.nm.map V.str)) :: (a.o, .lst s.tv) :: (a.h, .lst s.hv) :: (a.x, rdrO K a.dx (.ref a.T) (.ref a.p) (.ref a.n) (.ref a.o) (.ref a.h) s.f s.l) :: (a.T, o) :: fr) H := by
    refine gI.perm hI ?_
    exact (List.perm_middle (l₁ := [(a.p, HO.lst (s.pl.map V.str)), (a.n, .lst (s.nm.map V.str)), (a.o, .lst s.tv), (a.h, .lst s.hv), (a.x, rdrO K a.dx (.ref a.T) (.ref a.p) (.ref a.n) (.ref a.o) (.ref a.h) s.f s.l)]) (a := (a.T, o)) (l₂ := fr))
  obtain ⟨h2, s2⟩ := gI.fix h1
  obtain ⟨h3, s3⟩ := gI.fix h2
  obtain ⟨h4, s4⟩ := gI.fix h3
  obtain ⟨h5, s5⟩ := gI.fix h4
  obtain ⟨h6, s6⟩ := gI.fix h5
  have t := same_tr s2 (same_tr s3 (same_tr s4 (same_tr s5 s6)))
  exact ⟨_, t, ⟨o, Nat.succ_pos _, h6, ht.up t⟩, s6 _ _ (s5 _ _ (s4 _ _ (s3 _ _ upd_same))), s6 _ _ (s5 _ _ (s4 _ _ upd_same)), s6 _ _ (s5 _ _ upd_same), s6 _ _ upd_same, upd_same⟩
end
/-- a pair of holes -/
def hoD (r : Bk.Rd) : PyData := .tuple [iN r.lo, oN r.hi]
theorem oNV_at {D : Hp} : ∀ o : Option Nat, At D (oNV o) (oN o)
  | none => .non
  | some n => .int _
theorem idx_raw {x : Str} {ns : List Str} (h : x ∈ ns) : ns[ns.idxOf x]? = some x ∧ ∀ m, m < ns.idxOf x → ns[m]? ≠ some x := by
  refine ⟨List.getElem?_eq_some_iff.mpr ⟨List.idxOf_lt_length_of_mem h, List.getElem_idxOf _⟩, fun m hm z => ?_⟩
  have := (idx_str h).2 m (.str x) hm (by rw [List.getElem?_map, z] <;> rfl)
  rw [eqV_str] at this
  cases this
/-! ### text S1 -/
def knB (k : Nat × List Nat) : PyData := .tuple [tup1 k.2, iN k.1]
def spRead (K : PySem.W.Frag) : Sp := fun vs H Q _ => ∃ (I : Hp → List (Addr × HO) → Hp → Prop) (D : Hp) (fr : List (Addr × HO)) (a : RdA) (d : Deal) (rows : List (List Str)), Ground I ∧ vs = [.ref a.x] ∧ d.Ok ∧ Told d rows ∧ RdS I K D fr a ⟨[], [], [], [], .non, .non⟩ H rows.flatten ∧
  ∀ (D' H' : Hp) (v : V), Same D D' → I D' fr H' → Dq K D' v d.book → Q v H'
section
variable {P : Program} {w : World} {K : PySem.W.Frag} {mg : Str → Option Value} {base : Heap}
theorem sc_Reader_read : FnScope ["self", "places", "known", "asks", "net", "words", "a", "b"] ["self"] (defScope s_Reader_read) := ⟨rfl, rfl, rfl, by decide +kernel, rfl, by decide +kernel, by decide +kernel⟩
theorem c_Reader_read (T : Txt K mg) : C8.Met P w K mg base 13 (He.ga K "Reader") "read" (spRead K) [] := by
  have h_Tokens_is_sign := c_Tokens_is_sign (P := P) (w := w) (base := base) T
  have h_Tokens_look := c_Tokens_look (P := P) (w := w) (base := base) T
  have h_Reader_read_places := c_Reader_read_places (P := P) (w := w) (base := base) T
  have h_Reader_read_road := c_Reader_read_road (P := P) (w := w) (base := base) T
  have h_ordered : C8.Cal P w K mg base 1 "ordered" spOrdered [] := c_ordered T
  have h_Words : C8.Mak P w K mg base 1 "Words" (He.ga K "Words") (spWrdI K) [] := c_Words_init T
  have h_Reader_read_known := c_Reader_read_known (P := P) (w := w) (base := base) T
  have h_Reader_read_ask := c_Reader_read_ask (P := P) (w := w) (base := base) T
  refine met_mk T.m_Reader_read T.c_Reader sc_Reader_read (fun _ _ _ _ _ _ us hl => match us, hl with | [_], _ => rfl) (fun vs H Q E h => ?_) (fun f cdv A outer s H vs Q E hr h => ?_)
  · obtain ⟨I, D, fr, a, d, rows, gI, rfl, _⟩ := h
    rfl
  obtain ⟨I, D, fr, a, d, rows, gI, rfl, ok, told, h, k⟩ := h
  refine ⟨_, (pss_cons (ps_expr (C8.pe_mt0 h_Reader_read_places hr (by decide) (pv 0))) (pss_cons (ps_expr (C8.pe_mt0 h_Reader_read_road hr (by decide) (pv 0))) (pss_cons (ps_while PassesOwn.never (pt_val (C8.pe_mt h_Tokens_is_sign hr (by decide) (pe_fld (pv 0) rfl) (pa_cons pe_str pa_nil))) (pss_one (ps_expr (C8.pe_mt0 h_Reader_read_road hr (by decide) (pv 0))))) (pss_cons (ps_asg (pe_tup (pa_cons (C8.pe_c h_ordered hr (by decide) rfl (pa_cons (pe_fld (pv 0) rfl) (pa_cons (pe_fld (pv 0) rfl) (pa_cons (pe_fld (pv 0) rfl) (pa_cons (pe_fld (pv 0) rfl) pa_nil))))) (pa_cons (pe_lst pa_nil) (pa_cons (pe_lst pa_nil) pa_nil)))) (pg_tup rfl (pgs_cons (pg_name (i := 1) sc_Reader_read.nd rfl (.inr rfl)) (pgs_cons (pg_name (i := 2) sc_Reader_read.nd rfl (.inl rfl)) (pgs_cons (pg_name (i := 3) sc_Reader_read.nd rfl (.inl rfl)) pgs_nil))))) (pss_cons (ps_set (i := 4) sc_Reader_read.nd rfl (Or.inl rfl) (pe_tup (pa_cons (pe_callB call_len_seq (by rfl) T.b_len PySem.boot_len (pa_cons (pv 1) pa_nil)) (pa_cons (pe_callTy call_tuple_ofN (by rfl) T.b_tuple boot_tuple (pa_cons (pe_lc (g := (gTup K 2 _)) (tt := tYes) (te := (tTup (tCons (tBMF (rTIndex K) _ _) (tCons (tBMF (rTIndex K) _ _) _)))) (own := [("a", 6), ("b", 7)]) rfl sc_Reader_read.nd (pi_list (pe_fld (pv 0) rfl)) (blkOk_by (by kernel_rfl)) (fun _ _ _ _ _ => (pg_tup rfl (pgs_cons (pg_name (i := 6) sc_Reader_read.nd rfl (.inl rfl)) (pgs_cons (pg_name (i := 7) sc_Reader_read.nd rfl (.inl rfl)) pgs_nil)))) (fun _ _ _ _ _ => pts_nil) (fun _ _ _ _ _ => (pe_tup (pa_cons (pe_bmF PySem.F.plainAttrs_tuple PySem.F.slot_tuple_index PySem.F.type_tuple_index mt_tup_indexN (pv 1) (pa_cons (pv 6) pa_nil)) (pa_cons (pe_bmF PySem.F.plainAttrs_tuple PySem.F.slot_tuple_index PySem.F.type_tuple_index mt_tup_indexN (pv 1) (pa_cons (pv 7) pa_nil)) pa_nil))))) pa_nil)) pa_nil)))) (pss_cons (ps_set (i := 5) sc_Reader_read.nd rfl (Or.inl rfl) (C8.pe_mk h_Words hr (by decide) rfl (pa_cons (pe_fld (pv 0) rfl) (pa_cons (pe_fld (pv 0) rfl) (pa_cons (pv 4) pa_nil))))) (pss_cons (ps_while PassesOwn.never (pt_val (C8.pe_mt h_Tokens_is_sign hr (by decide) (pe_fld (pv 0) rfl) (pa_cons pe_str pa_nil))) (pss_one (ps_expr (pe_bm PySem.F.plainAttrs_list PySem.F.slot_list_append PySem.F.type_list_append mt_append (pv 2) (pa_cons (C8.pe_mt h_Reader_read_known hr (by decide) (pv 0) (pa_cons (pv 5) pa_nil)) pa_nil))))) (pss_cons (ps_while PassesOwn.never (pt_cmpR op_notN (C8.pe_mt0 h_Tokens_look hr (by decide) (pe_fld (pv 0) rfl)) pe_non (nomark _)) (pss_one (ps_expr (pe_bm PySem.F.plainAttrs_list PySem.F.slot_list_append PySem.F.type_list_append mt_append (pv 3) (pa_cons (C8.pe_mt h_Reader_read_ask hr (by decide) (pv 0) (pa_cons (pv 5) (pa_cons (pe_callB call_len_seq (by rfl) T.b_len PySem.boot_len (pa_cons (pv 3) pa_nil)) pa_nil))) pa_nil))))) (pss_one (ps_ret (pe_tup (pa_cons (pv 1) (pa_cons (pe_callTy call_tuple_ofN (by rfl) T.b_tuple boot_tuple (pa_cons (pe_fld (pv 0) rfl) pa_nil)) (pa_cons (pv 4) (pa_cons (pe_callTy call_tuple_ofN (by rfl) T.b_tuple boot_tuple (pa_cons (pe_fld (pv 0) rfl) pa_nil)) (pa_cons (pe_callTy call_tuple_ofN (by rfl) T.b_tuple boot_tuple (pa_cons (pv 2) pa_nil)) (pa_cons (pe_callTy call_tuple_ofN (by rfl) T.b_tuple boot_tuple (pa_cons (pv 3) pa_nil)) pa_nil))))))))))))))))), ?_⟩
  show tSeq _ _ _ [some (.ref a.x), none, none, none, none, none, none, none] H
  obtain ⟨rw_, kw, aw, hrw, hkw, haw, eflat⟩ := told.flat
  rw [eflat] at h
  obtain ⟨lrw, grw⟩ := hrw.get
  obtain ⟨lkw, gkw⟩ := hkw.get
  obtain ⟨law_, gaw⟩ := haw.get
  have f0 := TKs.at_ gI h 5 (by decide) rfl
  walk_at "st"
  refine ⟨_, _, f0, rfl, I, D, fr, a, _, d.places, d.inn, d.out, _, gI, rfl, rfl, rfl, by rw [← ok.lenO]; exact ok.idxOut.2, ok.few, ok.ndP, fun n hn => ⟨(ok.nms n (List.mem_append_left _ hn)).named, nm_strOk (ok.nms n (List.mem_append_left _ hn))⟩, ok.inn, ok.out, ok.inout, h, fun D1 H1 s1 h1 => ?_⟩
  obtain ⟨rk, hrk⟩ := ok.rank
  have lroads : d.roads.length ≤ 60 := ok.roadsN
  have step : ∀ (n : Nat) (D2 H2 : Hp) (tv hv : List V) (Q2 : VK), n < d.roads.length → RdS I K D2 fr a ⟨d.places, d.names.take n, tv, hv, .str d.inn, .str d.out⟩ H2 ((rw_.drop n).flatten ++ (kw.flatten ++ aw.flatten)) → AtL D2 tv ((d.ends.take n).map prD) → AtL D2 hv ((d.roads.take n).map hoD) →
      (∀ D3 H3 tv' hv', Same D2 D3 → RdS I K D3 fr a ⟨d.places, d.names.take (n + 1), tv', hv', .str d.inn, .str d.out⟩ H3 ((rw_.drop (n + 1)).flatten ++ (kw.flatten ++ aw.flatten)) → AtL D3 tv' ((d.ends.take (n + 1)).map prD) → AtL D3 hv' ((d.roads.take (n + 1)).map hoD) → Q2 .non H3) → spRRoad K [.ref a.x] H2 Q2 C8.E0 := by
    intro n D2 H2 tv hv Q2 hn h2 htv hhv k2
    have er : d.roads[n]? = some d.roads[n] := List.getElem?_eq_getElem hn
    have hrm : d.roads[n] ∈ d.roads := List.getElem_mem hn
    generalize d.roads[n] = r at er hrm
    obtain ⟨w1, hw1, ew1⟩ := grw n r er
    rw [flat_at ew1] at h2
    have en : d.names[n]? = some r.nm := by
      unfold Deal.names
      rw [List.getElem?_map, er] <;> rfl
    have ee : d.ends[n]? = some (r.ft, r.hd) := by
      unfold Deal.ends
      rw [List.getElem?_map, er] <;> rfl
    have mnm : r.nm ∈ d.names := List.mem_of_getElem? en
    have hnew : r.nm ∉ d.names.take n := fun z => by
      have nd := ok.ndN
      rw [← List.take_append_drop n d.names] at nd
      refine (List.nodup_append.mp nd).2.2 _ z r.nm (List.mem_of_getElem? (i := 0) ?_) rfl
      rw [List.getElem?_drop]
      exact en
    have hnp : r.nm ∉ d.places := fun z => (List.nodup_append.mp ok.nd).2.2 _ z _ mnm rfl
    obtain ⟨ft1, ft2⟩ := ok.foot r hrm
    obtain ⟨hd1, hd2⟩ := ok.head r hrm
    obtain ⟨ho1, ho2⟩ := ok.hole r hrm
    have hlh := hhv.len
    rw [List.length_map, List.length_take] at hlh
    have eds : ∀ e ∈ d.ends.take n, ∃ r' ∈ d.roads, e = (r'.ft, r'.hd) := fun e he => by
      obtain ⟨r', hr', rfl⟩ := List.mem_map.mp (List.mem_of_mem_take he)
      exact ⟨r', hr', rfl⟩
    have nmP : ∀ x ∈ d.places, named x = true ∧ PyData.strOk x = true := fun x hx => ⟨(ok.nms x (List.mem_append_left _ hx)).named, nm_strOk (ok.nms x (List.mem_append_left _ hx))⟩
    refine ⟨I, D2, fr, a, _, r, w1, _, d.inn, d.out, d.ends.take n, rk, gI, rfl, rfl, rfl, hw1, h2, (ok.nms _ (List.mem_append_right _ mnm)).named, hnp, hnew, ?_, (nmP _ ft1).1, ft1, ft2, (nmP _ hd1).1, hd1, hd2, ho1, ho2, htv, ?_, ?_, hrk r hrm, ?_, ?_, (nmP _ hd1).2, fun D3 H3 c1 c2 s3 e1 e2 h3 => ?_⟩
    · show (d.names.take n).length < 60
      rw [List.length_take, Deal.names_len]
      omega
    · rw [List.length_take]
      have := ok.endsN
      omega
    · show hv.length ≤ 60
      omega
    · intro e he
      obtain ⟨r', hr', rfl⟩ := eds e he
      exact hrk r' hr'
    · intro e he
      obtain ⟨r', hr', rfl⟩ := eds e he
      exact (nmP _ (ok.head r' hr').1).2
    · refine k2 D3 H3 (tv ++ [.ref c1]) (hv ++ [.ref c2]) s3 ?_ ?_ ?_
      · rw [List.take_add_one, en]
        exact h3
      · rw [List.take_add_one, ee, List.map_append]
        exact (htv.up s3).snoc (.tup e1 (.cons (.str _) (.cons (.str _) .nil)))
      · rw [List.take_add_one, er, List.map_append]
        exact (hhv.up s3).snoc (.tup e2 (.cons (.int _) (.cons (oNV_at _) .nil)))
  have f1 := TKs.at_ gI h1 5 (by decide) rfl
  have hpos : 0 < d.roads.length := List.length_pos_iff.mpr ok.some_
  walk_at "st"
  walk_at "st"
  refine ⟨_, _, f1, rfl, step 0 D1 H1 [] [] _ hpos h1 .nil .nil fun D2 H2 tv2 hv2 s2 h2 a2 b2 => ?_⟩
  walk_at "st"
  walk_at "st"
  obtain ⟨W, hW⟩ : ∃ W : Nat → L2.St → Hp → Prop, W = (fun m σ H' => ∃ (D' : Hp) (n : Nat) (tv hv : List V), σ = [some (.ref a.x), none, none, none, none, none, none, none] ∧ Same D D' ∧ n ≤ d.roads.length ∧ RdS I K D' fr a ⟨d.places, d.names.take n, tv, hv, .str d.inn, .str d.out⟩ H' ((rw_.drop n).flatten ++ (kw.flatten ++ aw.flatten)) ∧ AtL D' tv ((d.ends.take n).map prD) ∧ AtL D' hv ((d.roads.take n).map hoD) ∧ m = d.roads.length - n) := ⟨_, rfl⟩
  refine loop_w W _ (by
    rw [hW]
    exact ⟨D2, 1, tv2, hv2, rfl, same_tr s1 s2, hpos, h2, a2, b2, rfl⟩) ?_
  intro m σ H4 hw4
  rw [hW] at hw4
  obtain ⟨D4, n, tv4, hv4, rfl, s4, hn4, h4, a4, b4, rfl⟩ := hw4
  have f4 := TKs.at_ gI h4 5 (by decide) rfl
  obtain ⟨dx4, z4, p4, t4, g4⟩ := TKs.get gI h4
  walk_at "rd"
  refine ⟨_, _, _, f4, T.c_Reader, T.n_Reader_left, _, rfl, _, rfl, _, _, g4, rfl, I, D4, _, 0, a.T, _, _, gI, rfl, h4, fun D5 H5 s5 h5 => ⟨_, rfl, ?_⟩⟩
  have f5 := TKs.at_ gI h5 5 (by decide) rfl
  by_cases hlt : n < d.roads.length
  · obtain ⟨w1, hw1, ew1⟩ := grw n _ (List.getElem?_eq_getElem hlt)
    refine if_eq (by
      rw [flat_at ew1]
      cases hw1 with
      | mk _ => rfl) (stepW fun N hN => ?_)
    walk_at "rd"
    refine ⟨_, _, f5, rfl, step n D5 H5 tv4 hv4 _ hlt h5 (a4.up s5) (b4.up s5) fun D6 H6 tv6 hv6 s6 h6 a6 b6 => ?_⟩
    exact hN _ _ _ (show d.roads.length - (n + 1) < d.roads.length - n by omega) (by
      rw [hW]
      exact ⟨D6, n + 1, tv6, hv6, rfl, same_tr s4 (same_tr s5 s6), hlt, h6, a6, b6, rfl⟩)
  have hn : n = d.roads.length := by omega
  subst hn
  rw [flat_end (by omega)] at h5
  refine if_ne (by
    rw [flat_end (by omega)]
    refine Oth.rows hkw (knW_first (by decide +kernel)) ?_
    have := Oth.rows (s := "road") haw (asW_first (by decide +kernel) (by decide +kernel)) Oth.nil
    rw [List.append_nil] at this
    exact this) ?_
  rw [List.take_of_length_le (by rw [Deal.names_len]; exact Nat.le_refl _)] at h5
  rw [List.take_of_length_le (by rw [Deal.ends_len]; exact Nat.le_refl _)] at a4
  rw [List.take_length] at b4
  obtain ⟨D6, s6, h6, ep, en, eo, eh, ex⟩ := RdS.close gI h5
  clear f4 f5 h5 h4 g4 h2 step f1 h1 f0 h
  have a6 := a4.up (same_tr s5 s6)
  have b6 := b4.up (same_tr s5 s6)
  have s06 := same_tr s4 (same_tr s5 s6)
  walk_at "st"
  have x6 := h6.same gI _ _ ex
  obtain ⟨o6, hj6, hI6, ht6⟩ := h6
  refine ⟨_, _, _, x6, T.c_Reader, T.n_Reader_places, _, rfl, _, _, _, x6, T.c_Reader, T.n_Reader_first, _, rfl, _, _, _, x6, T.c_Reader, T.n_Reader_last, _, rfl, _, _, _, x6, T.c_Reader, T.n_Reader_told, _, rfl, I, D6, _, a.p, a.o, tv4, d.places, d.inn, d.out, d.ends, gI, rfl, hI6, .inl ep, .inl eo, a6, ok.ordOk, fun D7 H7 po s7 hI7 hpo => ?_⟩
  have h7 : TKs I K D7 ((a.T, .lst []) :: fr) 0 a.T H7 (kw.flatten ++ aw.flatten) := ⟨o6, hj6, hI7, ht6.up s7⟩
  have hpo : FzT D7 po (d.order.map V.str) := hpo
  intro pk nk
  have h8 := h7.put gI nk (.lst [])
  walk_at "rd"
  intro pa na
  have h9 := h8.put gI na (.lst [])
  walk_at "rd"
  intro p10 n10
  have h10 := h9.tmp gI n10 (.tup [.ref po, .ref pk, .ref pa])
  refine ⟨_, SqT.of upd_same, rfl, _, _, rfl, _, _, rfl, _, _, rfl, rfl, ?_⟩
  have s07 := same_tr s06 s7
  walk_at "st"
  obtain ⟨o10, hj10, hI10, ht10⟩ := h10
  have q10 := gI.same hI10
  refine ⟨_, .inr (hpo.up q10).sq, _, _, _, q10 _ _ (s7 _ _ ex), T.c_Reader, T.n_Reader_told, _, rfl, _, rfl, ⟨_, SqL.of (q10 _ _ (s7 _ _ eo))⟩, ?_⟩
  refine gathE gI (src_list gI (.inl (s7 _ _ eo)) (a6.up s7)) hI10 (fun e : Str × Str => prN (d.order.idxOf e.1, d.order.idxOf e.2)) (by have := ok.endsN; omega) ?_ ?_
  · intro j y e D5 q5 H5 he5 hy s5 h5 My Mn myes
    obtain ⟨b, rfl, hb⟩ := pr_at hy
    have hb5 := gI.same h5 _ _ hb
    obtain ⟨r', hr', rfl⟩ := List.mem_map.mp (List.mem_of_getElem? he5)
    have m1 := ok.memO (ok.foot r' hr').1
    have m2 := ok.memO (ok.head r' hr').1
    have hpo5 := hpo.up (same_tr s5 (gI.same h5))
    walk_at "rd"
    refine ⟨_, SqT.of hb5, rfl, _, _, rfl, _, _, rfl, rfl, ?_⟩
    rw [u_bmF]
    walk_at "rd"
    refine ⟨⟨_, hpo5⟩, _, hpo5.sq, _, (idx_raw m1).1, (idx_raw m1).2, ?_⟩
    rw [u_bmF]
    walk_at "rd"
    refine ⟨⟨_, hpo5⟩, _, hpo5.sq, _, (idx_raw m2).1, (idx_raw m2).2, fun p7 n7 => ?_⟩
    obtain ⟨h7, s7⟩ := gI.new (.tup [vN (d.order.idxOf r'.ft), vN (d.order.idxOf r'.hd)]) h5 n7
    exact myes _ _ _ s7 h7 (.tup upd_same (.cons (.int _) (.cons (.int _) .nil)))
  intro D11 H11 v11 s11 hI11 hv11
  obtain ⟨p11, x11, rfl, hp11, hx11⟩ := hv11.lst_is
  refine ⟨_, rfl, x11, .inl ⟨SqL.of (gI.same hI11 _ _ hp11), fun p12 n12 p13 n13 => ?_⟩⟩
  obtain ⟨hI12, s12⟩ := gI.new (.tup x11) hI11 n12
  obtain ⟨hI13, s13⟩ := gI.new (.tup [.int ((d.order.map V.str).length : Nat), .ref p12]) hI12 n13
  have s713 := same_tr s11 (same_tr s12 s13)
  have h13 : TKs I K _ ((pa, .lst []) :: (pk, .lst []) :: (a.T, .lst []) :: fr) 2 a.T _ (kw.flatten ++ aw.flatten) := ⟨o10, hj10, hI13, ht10.up s713⟩
  generalize hD13 : upd (upd D11 p12 (.tup x11)) p13 (.tup [.int ((d.order.map V.str).length : Nat), .ref p12]) = D13 at *
  have enet : D13 p13 = some (.tup [vN d.order.length, .ref p12]) := by
    rw [← hD13, List.length_map]
    exact upd_same
  have hnet : NetAt D13 p13 p12 x11 d.order.length d.iE := by
    refine ⟨enet, s13 _ _ upd_same, ?_⟩
    have e : d.ends.map (fun e : Str × Str => prN (d.order.idxOf e.1, d.order.idxOf e.2)) = d.iE.map prN := by
      unfold Deal.iE mapE
      rw [List.map_map] <;> rfl
    rw [← e]
    exact hx11.up (same_tr s12 s13)
  clear hD13
  have ex13 := s713 _ _ (s7 _ _ ex)
  have en13 := s713 _ _ (s7 _ _ en)
  have eh13 := s713 _ _ (s7 _ _ eh)
  have po13 := hpo.up s713
  have b13 := b6.up (same_tr s7 s713)
  have s0D := same_tr s07 s713
  walk_at "st"
  have x13 := h13.same gI _ _ ex13
  refine ⟨_, _, _, x13, T.c_Reader, T.n_Reader_left, _, rfl, _, _, _, x13, T.c_Reader, T.n_Reader_names, _, rfl, fun W dw nW ndw hne => ?_⟩
  have h14 := h13.tmp gI ndw (.own W)
  have h15 := h14.put gI (p := W) (by rw [upd_ne (Ne.symm hne)]; exact nW) (.ins (He.ga K "Words") dw [])
  refine ⟨W, dw, _, _, _, rfl, upd_same, rfl, ?_⟩
  have h16 := h15.upd gI 0 (by decide) rfl (.ins (He.ga K "Words") dw [("left", .ref a.T), ("names", .ref a.n), ("ground", .ref p13)])
  obtain ⟨h17, s17⟩ := h16.fix gI
  have hWd : WdAt K _ W a.T a.n d.names (.ref p13) := ⟨dw, upd_same, s17 _ _ en13⟩
  have hRd : RdC K _ a.x a.T := ⟨_, _, _, _, _, _, _, s17 _ _ ex13⟩
  have hnet17 := hnet.up s17
  have en17 := s17 _ _ en13
  have ex17 := s17 _ _ ex13
  have eh17 := s17 _ _ eh13
  have po17 := po13.up s17
  have b17 := b13.up s17
  have s0E := same_tr s0D s17
  generalize upd D13 W (.ins (He.ga K "Words") dw [("left", .ref a.T), ("names", .ref a.n), ("ground", .ref p13)]) = D17 at *
  clear h16 h15 h14 h13 hnet x13 q10 hI10 hI12 hI13 hI11 hI7 h7 h8 h9
  walk_at "st"
  obtain ⟨Wk, hWk⟩ : ∃ Wk : Nat → L2.St → Hp → Prop, Wk = (fun m σ H' => ∃ (D' : Hp) (n : Nat) (kv : List V), σ = [some (.ref a.x), some (.ref po), some (.ref pk), some (.ref pa), some (.ref p13), some (.ref W), none, none] ∧ Same D17 D' ∧ n ≤ d.known.length ∧ TKs I K D' ((pa, .lst []) :: (pk, .lst kv) :: (a.T, .lst []) :: fr) 2 a.T H' ((kw.drop n).flatten ++ aw.flatten) ∧ AtL D' kv ((d.known.take n).map knB) ∧ m = d.known.length - n) := ⟨_, rfl⟩
  refine loop_w Wk _ (by
    rw [hWk]
    exact ⟨D17, 0, [], rfl, same_rfl, Nat.zero_le _, h17, .nil, rfl⟩) ?_
  intro m σ H18 hw18
  rw [hWk] at hw18
  obtain ⟨D18, n, kv18, rfl, s18, hn18, h18, a18, rfl⟩ := hw18
  obtain ⟨xdx, xp, xn, xo, xh, xf, xl, exx⟩ := hRd.up s18
  have x18 := h18.same gI _ _ exx
  obtain ⟨dx18, z18, p18, t18, g18⟩ := h18.get gI
  walk_at "rd"
  refine ⟨_, _, _, x18, T.c_Reader, T.n_Reader_left, _, rfl, _, rfl, _, _, g18, rfl, I, D18, _, 2, a.T, _, _, gI, rfl, h18, fun D19 H19 s19 h19 => ⟨_, rfl, ?_⟩⟩
  have x19 := h19.same gI _ _ (s19 _ _ exx)
  have s1819 := same_tr s18 s19
  by_cases hlt : n < d.known.length
  · have ekn := List.getElem?_eq_getElem hlt
    have hkm : d.known[n] ∈ d.known := List.getElem_mem hlt
    generalize d.known[n] = kk at ekn hkm
    obtain ⟨w1, rfl, ew1⟩ := gkw n _ ekn
    rw [flat_at ew1] at h19 ⊢
    refine if_eq (show decide (("known" : Str) = "known") = true from decide_eq_true rfl) (stepW fun N hN => ?_)
    walk_at "rd"
    obtain ⟨ok1, ok2, ok3, ok4, ok5⟩ := ok.known kk hkm
    have hoL := ok.idxOut.2
    have e1 : (d.known.take n ++ [kk]) = d.known.take (n + 1) := by rw [List.take_add_one, ekn] <;> rfl
    have hkl := a18.len
    rw [List.length_map, List.length_take] at hkl
    have hkN := ok.knownN
    refine ⟨.inl ⟨rfl, _, SqL.of (h19.at_ gI 1 (by decide) rfl)⟩, _, _, x19, rfl, I, D19, _, 2, a.T, a.x, W, a.n, p13, p12, d.names, x11, d.order.length, d.iE, kk, _, gI, rfl, h19, hRd.up s1819, hWd.up s1819, ok.namesOk, hnet17.up s1819, ok1, ok2, by
      intro i hi
      rw [Deal.names_len]
      exact (ok.knLt kk hkm).2 i hi, ok4, ok3, ok.knPath kk hkm, by omega, by rw [Deal.iE_len]; omega, fun D20 H20 v20 s20 h20 hv20 => ?_⟩
    refine ⟨_, h20.at_ gI 1 (by decide) rfl, szl (by omega), ?_⟩
    have h21 := h20.upd gI 1 (by decide) rfl (.lst (kv18 ++ [v20]))
    exact hN _ _ _ (show d.known.length - (n + 1) < d.known.length - n by omega) (by
      rw [hWk]
      refine ⟨D20, n + 1, kv18 ++ [v20], rfl, same_tr s1819 s20, hlt, h21, ?_, rfl⟩
      rw [← e1, List.map_append]
      exact (a18.up (same_tr s19 s20)).snoc hv20)
  have hn : n = d.known.length := by omega
  subst hn
  rw [flat_end (by omega)] at h19 ⊢
  refine if_ne (by
    have := Oth.rows (s := "known") haw (asW_first (by decide +kernel) (by decide +kernel)) Oth.nil
    rw [List.append_nil] at this
    exact this) ?_
  rw [List.take_length] at a18
  have a19 := a18.up s19
  walk_at "st"
  obtain ⟨Wa, hWa⟩ : ∃ Wa : Nat → L2.St → Hp → Prop, Wa = (fun m σ H' => ∃ (D' : Hp) (n : Nat) (av : List V), σ = [some (.ref a.x), some (.ref po), some (.ref pk), some (.ref pa), some (.ref p13), some (.ref W), none, none] ∧ Same D19 D' ∧ n ≤ d.asks.length ∧ TKs I K D' ((pa, .lst av) :: (pk, .lst kv18) :: (a.T, .lst []) :: fr) 2 a.T H' ((aw.drop n).flatten ++ []) ∧ AtL D' av ((d.asks.take n).map As.d) ∧ m = d.asks.length - n) := ⟨_, rfl⟩
  refine loop_w Wa _ (by
    rw [hWa]
    exact ⟨D19, 0, [], rfl, same_rfl, Nat.zero_le _, by rw [List.append_nil]; exact h19, .nil, rfl⟩) ?_
  intro m σ H20 hw20
  rw [hWa] at hw20
  obtain ⟨D20, n, av20, rfl, s20, hn20, h20, a20, rfl⟩ := hw20
  have s1820 := same_tr s1819 s20
  have ex20 := same_tr s19 s20 _ _ exx
  have x20 := h20.same gI _ _ ex20
  obtain ⟨dx20, z20, p20, t20, g20⟩ := h20.get gI
  walk_at "rd"
  refine ⟨_, _, _, x20, T.c_Reader, T.n_Reader_left, _, rfl, _, rfl, _, _, g20, rfl, I, D20, _, 2, a.T, _, gI, rfl, h20, fun H21 hnil h21 => ?_, fun D21 H21 c21 x21 rest21 q21 hcons s21 h21 _ _ => ?_⟩
  · refine ite2 (fun _ => ?_) (fun e => absurd rfl e)
    have hn : n = d.asks.length := by
      by_cases hlt : n < d.asks.length
      · obtain ⟨w1, hw1, ew1⟩ := gaw n _ (List.getElem?_eq_getElem hlt)
        rw [flat_at ew1] at hnil
        exact absurd (List.append_eq_nil_iff.mp hnil).1 (asW_ne hw1)
      · omega
    subst hn
    rw [List.take_length] at a20
    have x21 := h21.same gI _ _ (s1820 _ _ ex17)
    have en21 := h21.same gI _ _ (s1820 _ _ en17)
    refine ⟨_, _, _, x21, T.c_Reader, T.n_Reader_names, _, rfl, _, rfl, _, .inl ⟨SqL.of en21, fun l1 n1 => ?_⟩⟩
    obtain ⟨h22, s22⟩ := h21.new gI n1 (.tup (d.names.map V.str))
    have q22 := h22.same gI
    refine ⟨_, _, _, q22 _ _ (s22 _ _ (s1820 _ _ ex17)), T.c_Reader, T.n_Reader_holes, _, rfl, _, rfl, _, .inl ⟨SqL.of (q22 _ _ (s22 _ _ (s1820 _ _ eh17))), fun l2 n2 => ?_⟩⟩
    obtain ⟨h23, s23⟩ := h22.new gI n2 (.tup hv4)
    refine ⟨_, .inl ⟨SqL.of (h23.at_ gI 1 (by decide) rfl), fun l3 n3 => ?_⟩⟩
    obtain ⟨h24, s24⟩ := h23.new gI n3 (.tup kv18)
    refine ⟨_, .inl ⟨SqL.of (h24.at_ gI 0 (by decide) rfl), fun l4 n4 => ?_⟩⟩
    obtain ⟨h25, s25⟩ := h24.new gI n4 (.tup av20)
    intro l5 n5
    obtain ⟨h26, s26⟩ := h25.new gI n5 (.tup [.ref po, .ref l1, .ref p13, .ref l2, .ref l3, .ref l4])
    have s2226 := same_tr s22 (same_tr s23 (same_tr s24 (same_tr s25 s26)))
    obtain ⟨o26, hj26, hI26, _⟩ := h26
    have po20 := po17.up s1820
    have net20 := hnet17.up s1820
    have b20 := b17.up s1820
    have kn20 := a19.up s20
    refine k _ _ _ (same_tr s0E (same_tr s1820 s2226)) (gI.sub hI26 (((List.Sublist.refl fr).cons _).cons _ |>.cons _)) ?_
    refine Dq.tup upd_same (.cons (Dq.fz (po20.up s2226) (AtL.dq (AtL.strs.mpr rfl))) (.cons (At.dq (.tup (s26 _ _ (s25 _ _ (s24 _ _ (s23 _ _ upd_same)))) (AtL.strs.mpr rfl))) (.cons ?_ (.cons ?_ (.cons ?_ (.cons ?_ .nil))))))
    · have n26 := net20.up s2226
      refine At.dq (.tup n26.net (.cons (.int _) (.cons (.tup n26.roads ?_) .nil)))
      have e : d.iE.map prN = endsD d.order d.ends := by
        unfold Deal.iE mapE endsD
        rw [List.map_map] <;> rfl
      rw [← e]
      exact n26.at_
    · exact At.dq (.tup (s26 _ _ (s25 _ _ (s24 _ _ upd_same))) (b20.up s2226))
    · exact At.dq (.tup (s26 _ _ (s25 _ _ upd_same)) (kn20.up s2226))
    · exact At.dq (.tup (s26 _ _ upd_same) (a20.up s2226))
  · refine ite2 (fun e => absurd e (fun z => by cases z)) (fun _ => ?_)
    have hlt : n < d.asks.length := by
      by_cases hlt : n < d.asks.length
      · exact hlt
      · rw [flat_end (by omega)] at hcons
        cases hcons
    have eas := List.getElem?_eq_getElem hlt
    have ham : d.asks[n] ∈ d.asks := List.getElem_mem hlt
    generalize d.asks[n] = aa at eas ham
    obtain ⟨w1, hw1, ew1⟩ := gaw n _ eas
    rw [flat_at ew1] at h21
    have s1821 := same_tr s1820 s21
    have x21 := h21.same gI _ _ (s1821 _ _ ex17)
    have aok := ok.asOk aa ham
    have e1 : (d.asks.take n ++ [aa]) = d.asks.take (n + 1) := by rw [List.take_add_one, eas] <;> rfl
    have hal := a20.len
    rw [List.length_map, List.length_take] at hal
    have haN := ok.asksN
    have hiE : d.iE.length ≤ 60 := by rw [Deal.iE_len]; exact ok.roadsN
    refine stepW fun N hN => ?_
    walk_at "rd"
    have hpa := h21.at_ gI 0 (by decide) rfl
    refine ⟨.inl ⟨rfl, _, SqL.of hpa⟩, _, _, x21, rfl, _, .inl (SqL.of hpa), I, D21, _, 2, a.T, a.x, W, a.n, p13, p12, d.names, x11, d.order.length, d.iE, aa, w1, _, av20.length, gI, rfl, h21, hRd.up s1821, hWd.up s1821, ok.namesOk, hnet17.up s1821, hw1, by
      have := ok.asG aa ham
      rw [Deal.iE_len, ← Deal.names_len] at this
      exact this, fun q hq => ⟨asQ_ok aok q hq, (asQ_ok aok q hq).g hiE⟩, fun s hs => by
      subst hs
      cases aok with
      | say _ h8 => exact h8, by omega, by omega, fun D22 H22 v22 s22 h22 hv22 => ?_⟩
    refine ⟨_, h22.at_ gI 0 (by decide) rfl, szl (by omega), ?_⟩
    have h23 := h22.upd gI 0 (by decide) rfl (.lst (av20 ++ [v22]))
    exact hN _ _ _ (show d.asks.length - (n + 1) < d.asks.length - n by omega) (by
      rw [hWa]
      refine ⟨D22, n + 1, av20 ++ [v22], rfl, same_tr s20 (same_tr s21 s22), hlt, h23, ?_, rfl⟩
      rw [← e1, List.map_append]
      exact (a20.up (same_tr s21 s22)).snoc hv22)
end
/-! ### text E2 -/
/-! ## words joined with gaps -/
def sgn (c : Nat) : Bool := c == 59 || c == 58 || c == 62 || c == 63 || c == 46
def fig (c : Nat) : Bool := decide (48 ≤ c) && decide (c ≤ 57)
def codes (x : Str) : List Nat := x.cps.toList
/-- the gap may be empty -/
def FreeG (one other : List Nat) : Prop := (∃ c, one.getLast? = some c ∧ sgn c = true) ∨ (∃ c, other.head? = some c ∧ sgn c = true) ∨ ((∃ c, one.head? = some c ∧ fig c = true) ∧ ∃ c, other.head? = some c ∧ fig c = false)
def GapOk (one other g : List Nat) : Prop := (∀ c ∈ g, c = 32 ∨ c = 10) ∧ (g = [] → FreeG one other) ∧ g.length ≤ 3
inductive Gl : List Nat → List (List Nat) → List Nat → Prop
  | nil {prev g : List Nat} : GapOk prev [59] g → Gl prev [] g
  | cons {prev w g t : List Nat} {ws : List (List Nat)} : GapOk prev w g → Gl w ws t → Gl prev (w :: ws) (g ++ w ++ t)
def joinG : List (List Nat) → List (List Nat) → List Nat
  | one :: ones, g :: gs => one ++ g ++ joinG ones gs
  | _, _ => []
theorem sgn_in (c : Nat) : decide (c ∈ (Str.ofString ";:>?.").cps.toList) = sgn c := by
  rw [show (Str.ofString ";:>?.").cps.toList = [59, 58, 62, 63, 46] by decide +kernel]
  unfold sgn
  simp only [List.mem_cons, List.not_mem_nil, or_false, Bool.decide_or]
  rw [Bool.or_assoc, Bool.or_assoc, Bool.or_assoc]
  rfl
theorem fig_in (c : Nat) : decide (c ∈ (Str.ofString "0123456789").cps.toList) = fig c := by
  rw [show (Str.ofString "0123456789").cps.toList = [48, 49, 50, 51, 52, 53, 54, 55, 56, 57] by decide +kernel]
  unfold fig
  rw [← Bool.decide_and]
  refine decide_eq_decide.mpr ?_
  simp only [List.mem_cons, List.not_mem_nil, or_false]
  omega
theorem cutS_one {z : Str} {c : Nat} (h : (codes z).head? = some c) : cutS z none (some 1) = ⟨#[c]⟩ := by
  unfold cutS
  have hl : z.length = (codes z).length := TL.len_tl z
  obtain ⟨r, hr⟩ : ∃ r, codes z = c :: r := by
    cases hz : codes z with
    | nil => rw [hz] at h; cases h
    | cons a r => rw [hz] at h; cases h; exact ⟨r, rfl⟩
  rw [HT.sIx_none, show (some 1 : Option Int) = some ((1 : Nat) : Int) from rfl, HT.sIx_nat, hl, show z.cps.toList = c :: r from hr, hr]
  simp
theorem codes_app (x y : Str) : codes (x ++ y) = codes x ++ codes y := TL.tl_append x y
theorem codes_len (x : Str) : x.length = (codes x).length := TL.len_tl x
theorem joinG_snoc : ∀ (as gs : List (List Nat)) (x g : List Nat), as.length = gs.length → joinG (as ++ [x]) (gs ++ [g]) = joinG as gs ++ (x ++ g)
  | [], [], x, g, _ => by simp [joinG]
  | a :: as, b :: gs, x, g, h => by
    have ih := joinG_snoc as gs x g (by simpa using h)
    simp only [List.cons_append, joinG, ih, List.append_assoc]
  | [], b :: gs, x, g, h => by simp at h
  | a :: as, [], x, g, h => by simp at h
theorem gl_of : ∀ (ws gs : List (List Nat)) (prev : List Nat), gs.length = ws.length + 1 → (∀ (j : Nat) (a b g : List Nat), (prev :: ws)[j]? = some a → (ws ++ [[59]])[j]? = some b → gs[j]? = some g → GapOk a b g) →
    ∃ t, joinG (prev :: ws) gs = prev ++ t ∧ Gl prev ws t
  | [], [g], prev, _, h => ⟨g, by simp [joinG], .nil (h 0 _ _ _ rfl rfl rfl)⟩
  | w :: ws, g :: gs, prev, hl, h => by
    obtain ⟨t, e, q⟩ := gl_of ws gs w (by simpa using hl) (fun j a b g' h1 h2 h3 => h (j + 1) a b g' h1 h2 h3)
    refine ⟨g ++ w ++ t, ?_, .cons (h 0 _ _ _ rfl rfl rfl) q⟩
    show prev ++ g ++ joinG (w :: ws) gs = _
    rw [e]
    simp
  | [], [], prev, hl, _ => by simp at hl
  | [], g :: g' :: gs, prev, hl, _ => by simp at hl
  | w :: ws, [], prev, hl, _ => by simp at hl
def gaps5 : List Str := [" ", " ", "\n", "  ", " \n "]
def gaps8 : List Str := [" ", " ", "\n", "  ", " \n ", "", "", ""]
theorem gaps5_ok (one other : List Nat) : ∀ g ∈ gaps5, GapOk one other (codes g) := by
  intro g hg
  simp only [gaps5, List.mem_cons, List.not_mem_nil, or_false] at hg
  have key : (codes g = [32] ∨ codes g = [10] ∨ codes g = [32, 32] ∨ codes g = [32, 10, 32]) := by
    rcases hg with rfl | rfl | rfl | rfl | rfl
    · exact .inl (by decide +kernel)
    · exact .inl (by decide +kernel)
    · exact .inr (.inl (by decide +kernel))
    · exact .inr (.inr (.inl (by decide +kernel)))
    · exact .inr (.inr (.inr (by decide +kernel)))
  rcases key with e | e | e | e <;> rw [e] <;> exact ⟨by decide, fun z => absurd z (by decide), by decide⟩
theorem gaps8_ok (one other : List Nat) (hf : FreeG one other) : ∀ g ∈ gaps8, GapOk one other (codes g) := by
  intro g hg
  by_cases h5 : g ∈ gaps5
  · exact gaps5_ok one other g h5
  · simp only [gaps8, gaps5, List.mem_cons, List.not_mem_nil, or_false] at hg h5
    have : g = "" := by
      rcases hg with h | h | h | h | h | h | h | h
      · exact absurd (.inl h) h5
      · exact absurd (.inl h) h5
      · exact absurd (.inr (.inr (.inl h))) h5
      · exact absurd (.inr (.inr (.inr (.inl h)))) h5
      · exact absurd (.inr (.inr (.inr (.inr h)))) h5
      · exact h
      · exact h
      · exact h
    subst this
    rw [show codes "" = [] by decide +kernel]
    exact ⟨fun c hc => (by simp at hc), fun _ => hf, Nat.zero_le _⟩
def spJoined : Sp := fun vs H Q _ => ∃ (D : Hp) (S : Addr) (fr : List (Addr × HO)) (pw : Addr) (ws : List Str), vs = [.ref S, .ref pw] ∧ Sk D S fr H ∧ In D fr pw (.lst (ws.map V.str)) ∧ ws.length ≤ 90000 ∧ (∀ w ∈ ws, codes w ≠ [] ∧ w.length ≤ 40) ∧
  ∀ (D' H' : Hp) (x : Str), Same D D' → Sk D' S fr H' → Gl [59] (ws.map codes) (codes x) → x.length ≤ 9000000 → Q (.str x) H'
section
variable {P : Program} {w : World} {K : PySem.W.Frag} {mg : Str → Option Value} {base : Heap}
theorem sc_law_joined : FnScope ["_law_stock_here", "_law_words", "_law_gaps", "_law_text", "_law_figures", "_law_one", "_law_other", "_law_is_word", "_law_is_next", "_law_is_free"] ["_law_stock_here", "_law_words"] (defScope s_law_joined) := ⟨rfl, rfl, rfl, by decide +kernel, rfl, by decide +kernel, by decide +kernel⟩
theorem c_law_joined (T : Txt K mg) : C8.Cal P w K mg base 3 "_law_joined" spJoined [] := by
  have h_law_pick : C8.Cal P w K mg base 2 "_law_pick" spPick [] := c_law_pick T
  refine cal_mk T.d_law_joined sc_law_joined (fun _ _ _ _ _ _ us hl => match us, hl with | [_, _], _ => rfl) (fun vs H Q E h => ?_) (fun f cdv A outer s H vs Q E hr h => ?_)
  · obtain ⟨D, S, fr, pw, ws, rfl, _⟩ := h
    rfl
  obtain ⟨D, S, fr, pw, ws, rfl, h, hpw, hwl, hw, k⟩ := h
  refine ⟨_, (pss_cons (ps_par3 (i := 2) (j := 3) (l := 4) rfl sc_law_joined.nd rfl rfl rfl (by decide) (by decide) (by decide) rfl rfl rfl (pa_cons (pe_lst (pa_cons pe_str (pa_cons pe_str (pa_cons pe_str (pa_cons pe_str (pa_cons pe_str pa_nil)))))) (pa_cons pe_str (pa_cons pe_str pa_nil))) (by rfl)) (pss_cons (ps_for PassesOwn.never rfl (pi_zip (by rfl) T.b_zip (pa_cons (pe_op op_cat (pe_lst (pa_cons pe_str pa_nil)) (pv 1)) (pa_cons (pe_op op_cat (pv 1) (pe_lst (pa_cons pe_str pa_nil))) pa_nil))) (pg_tup rfl (pgs_cons (pg_name (i := 5) sc_law_joined.nd rfl (.inl rfl)) (pgs_cons (pg_name (i := 6) sc_law_joined.nd rfl (.inl rfl)) pgs_nil))) (pss_cons (ps_set (i := 3) sc_law_joined.nd rfl (Or.inl rfl) (pe_ifExp (pt_cmpR op_ne (pv 3) pe_str (nomark _)) (pe_op op_add_str (pv 3) (pv 5)) (pv 5))) (pss_cons (ps_par (i := 7) (j := 8) rfl sc_law_joined.nd rfl rfl (by decide) rfl rfl (pa_cons (pe_cmpR op_notIn_sign (pe_ix ix_str (pv 5) (pe_un un_neg pe_int) (fun _ _ => rfl)) pe_str (by rfl)) (pa_cons (pe_cmpR op_notIn_sign (pe_slice sl_str (pv 6) po_none (po_some pe_int)) pe_str (by rfl)) pa_nil)) (by rfl)) (pss_cons (ps_set (i := 9) sc_law_joined.nd rfl (Or.inl rfl) (pe_or (pe_not (pv 7)) (pe_or (pe_not (pv 8)) (pe_one (pe_and (pe_cmpR op_in_sign (pe_ix ix_str (pv 5) pe_int (fun _ _ => rfl)) (pv 4) (by rfl)) (pe_one (pe_cmpR op_notIn_sign (pe_slice sl_str (pv 6) po_none (po_some pe_int)) (pv 4) (by rfl)))))))) (pss_one (ps_set (i := 3) sc_law_joined.nd rfl (Or.inl rfl) (pe_op op_add_str (pv 3) (C8.pe_c h_law_pick hr (by decide) rfl (pa_cons (pv 0) (pa_cons (pe_ifExp (pt_val (pv 9)) (pe_op op_cat (pv 2) (pe_lst (pa_cons pe_str (pa_cons pe_str (pa_cons pe_str pa_nil))))) (pv 2)) pa_nil)))))))))) (pss_one (ps_ret (pe_slice sl_str (pv 3) (po_some pe_int) po_none))))), ?_⟩
  show tSeq _ _ _ [some (.ref S), some (.ref pw), none, none, none, none, none, none, none, none] H
  have gI : Ground (fun D fr H => Sk D S fr H) := ground_Sk
  walk_at "st"
  intro p1 n1
  obtain ⟨h1, s1⟩ := h.new n1 (.lst [.str " ", .str " ", .str "\n", .str "  ", .str " \n "])
  walk_at "st"
  intro p2 n2
  have h2 := h1.tmp n2 (.lst [.str ";"])
  refine ⟨_, upd_same, _, h2.in_ (hpw.up s1), sz (by simp; omega), fun p3 n3 => ?_⟩
  obtain ⟨h3, s3⟩ := h2.new n3 (.lst ([.str ";"] ++ ws.map V.str))
  intro p4 n4
  have h4 := h3.tmp n4 (.lst [.str ";"])
  refine ⟨_, h4.in_ ((hpw.up s1).up s3), _, upd_same, sz (by simp; omega), fun p5 n5 => ?_⟩
  obtain ⟨h5, s5⟩ := h4.new n5 (.lst (ws.map V.str ++ [.str ";"]))
  have q3 := s5 _ _ (upd_same (a := p3))
  have q1 := s5 _ _ (s3 _ _ (upd_same (a := p1)))
  refine ⟨⟨_, SqL.of (h5.same _ _ q3)⟩, ⟨_, SqL.of upd_same⟩, ?_⟩
  have t5 := same_tr s1 (same_tr s3 s5)
  refine loop_f (walk_zip (n := ws.length + 1) (xs := [.str ";"] ++ ws.map V.str) (ys := ws.map V.str ++ [.str ";"]) (by simp)) (fun i σ H' => ∃ (D' : Hp) (x : Str) (gs : List (List Nat)) (y5 y6 y7 y8 y9 : Option V), σ = [some (.ref S), some (.ref pw), some (.ref p1), some (.str x), some (.str "0123456789"), y5, y6, y7, y8, y9] ∧ Same D D' ∧ Sk D' S fr H' ∧
      D' p3 = some (.lst ([.str ";"] ++ ws.map V.str)) ∧ D' p5 = some (.lst (ws.map V.str ++ [.str ";"])) ∧ D' p1 = some (.lst [.str " ", .str " ", .str "\n", .str "  ", .str " \n "]) ∧ gs.length = i ∧ codes x = joinG (([59] :: ws.map codes).take i) gs ∧ x.length ≤ 50 * i ∧
      ∀ (j : Nat) (a b g : List Nat), j < i → ([59] :: ws.map codes)[j]? = some a → (ws.map codes ++ [[59]])[j]? = some b → gs[j]? = some g → GapOk a b g)
    ⟨_, "", [], _, _, _, _, _, rfl, t5, h5, q3, upd_same, q1, rfl, rfl, Nat.le_refl _, fun j a b g hj => absurd hj (Nat.not_lt_zero _)⟩ (fun i σ H' _ hh => by
      obtain ⟨D', x, gs, y5, y6, y7, y8, y9, _, s, h, q3, q5, _⟩ := hh
      exact ⟨SqL.of (h.same _ _ q3), SqL.of (h.same _ _ q5)⟩) ?_ ?_
  · rintro i v σ H6 H7 hi ⟨D6, x, gs, y5, y6, y7, y8, y9, rfl, s6, h6, e3, e5, e1, hgl, hx, hxl, hgs⟩ ⟨Tp, a, b, rfl, hT, rfl, ha, hb⟩ N hN
    obtain ⟨h7, s7⟩ := h6.new hT (.tup [a, b])
    obtain ⟨one, rfl, one1, one2, one3⟩ : ∃ one : Str, a = .str one ∧ ([59] :: ws.map codes)[i]? = some (codes one) ∧ codes one ≠ [] ∧ one.length ≤ 40 := by
      cases i with
      | zero =>
        cases (Option.some.inj (show some (V.str ";") = some a from ha))
        exact ⟨";", rfl, congrArg some (show ([59] : List Nat) = codes ";" by decide +kernel), by decide +kernel, by decide +kernel⟩
      | succ i =>
        have ha2 : (ws.map V.str)[i]? = some a := ha
        rw [List.getElem?_map, Option.map_eq_some_iff] at ha2
        obtain ⟨w0, hw0, rfl⟩ := ha2
        obtain ⟨z1, z2⟩ := hw w0 (List.mem_of_getElem? hw0)
        exact ⟨w0, rfl, by rw [List.getElem?_cons_succ, List.getElem?_map, hw0] <;> rfl, z1, z2⟩
    obtain ⟨other, rfl, oth1, oth2, oth3⟩ : ∃ other : Str, b = .str other ∧ (ws.map codes ++ [[59]])[i]? = some (codes other) ∧ codes other ≠ [] ∧ other.length ≤ 40 := by
      have hb : (ws.map V.str ++ [V.str ";"])[i]? = some b := hb
      by_cases hi2 : i < ws.length
      · rw [List.getElem?_append_left (by rw [List.length_map]; exact hi2), List.getElem?_map, Option.map_eq_some_iff] at hb
        obtain ⟨w0, hw0, rfl⟩ := hb
        obtain ⟨z1, z2⟩ := hw w0 (List.mem_of_getElem? hw0)
        exact ⟨w0, rfl, by rw [List.getElem?_append_left (by rw [List.length_map]; exact hi2), List.getElem?_map, hw0] <;> rfl, z1, z2⟩
      · have hi3 : i = ws.length := by omega
        subst hi3
        rw [List.getElem?_append_right (by rw [List.length_map]; exact Nat.le_refl _), List.length_map, Nat.sub_self] at hb
        cases (Option.some.inj (show some (V.str ";") = some b from hb))
        have z : (ws.map codes ++ [[59]])[ws.length]? = some [59] := by
          rw [List.getElem?_append_right (by simp)]
          simp
        exact ⟨";", rfl, z.trans (by decide +kernel), by decide +kernel, by decide +kernel⟩
    obtain ⟨c1, hc1⟩ : ∃ c, (codes one).getLast? = some c := ⟨_, List.getLast?_eq_getLast one2⟩
    obtain ⟨c0, hc0⟩ : ∃ c, (codes one).head? = some c := by
      cases hz : codes one with
      | nil => exact absurd hz one2
      | cons a l => exact ⟨a, rfl⟩
    obtain ⟨d0, hd0⟩ : ∃ c, (codes other).head? = some c := by
      cases hz : codes other with
      | nil => exact absurd hz oth2
      | cons a l => exact ⟨a, rfl⟩
    walk_at "rd"
    refine ⟨_, SqT.of upd_same, rfl, _, _, rfl, _, _, rfl, rfl, ?_⟩
    rw [u_seq, u_asg]
    have hsm : one.length ≤ sizeLine := sz (by omega)
    have hso : other.length ≤ sizeLine := sz (by omega)
    obtain ⟨x1, hx1, lx1, cx1⟩ : ∃ x1 : Str, codes x1 = codes x ++ codes one ∧ x1.length ≤ 50 * i + 40 ∧ ((x = "" ∧ x1 = one) ∨ (x ≠ "" ∧ x1 = x ++ one)) := by
      by_cases hx0 : x = ""
      · subst hx0
        exact ⟨one, by rw [show codes "" = [] by decide +kernel, List.nil_append], by omega, .inl ⟨rfl, rfl⟩⟩
      · exact ⟨x ++ one, codes_app _ _, by rw [codes_len, codes_app, List.length_append, ← codes_len, ← codes_len]; omega, .inr ⟨hx0, rfl⟩⟩
    refine tv_of (.str x1) (fun Q' hQ => ?_) ?_
    · walk_at "rd"
      rcases cx1 with ⟨rfl, rfl⟩ | ⟨hx0, rfl⟩
      · rw [if_pos rfl]
        exact hQ
      · rw [if_neg hx0]
        exact ⟨by rw [sizeLine_eq]; omega, hQ⟩
    walk_at "st"
    walk_at "st"
    refine ⟨hsm, _, atI_last hc1, _, rfl, hso, d0, cutS_one hd0, ?_⟩
    rw [sgn_in, sgn_in, u_seq, u_asg]
    refine tv_of (.bl (sgn c1 || (sgn d0 || (fig c0 && !fig d0)))) (fun Q' hQ => ?_) ?_
    · walk_at "rd"
      rw [Bool.not_not, Bool.not_not]
      cases h1 : sgn c1
      · walk_at "rd"
        cases h2 : sgn d0
        · walk_at "rd"
          refine ⟨hsm, _, atI_head hc0, _, rfl, ?_⟩
          rw [h1, h2] at hQ
          cases h3 : fig c0
          · rw [h3] at hQ
            rw [if_neg (fun z => by rw [← fig_in, decide_eq_false_iff_not] at h3; exact h3 z)]
            exact hQ
          · rw [h3] at hQ
            rw [if_pos (by rw [← fig_in, decide_eq_true_eq] at h3; exact h3)]
            refine ⟨hso, d0, cutS_one hd0, ?_⟩
            rw [fig_in]
            exact hQ
        · walk_at "rd"
          rw [h1, h2] at hQ
          exact hQ
      · walk_at "rd"
        rw [h1] at hQ
        exact hQ
    walk_at "rd"
    have fin : ∀ (Dq H2 : Hp) (g : Str) (z7 z8 z9 : Option V), Same D6 Dq → Sk Dq S fr H2 → GapOk (codes one) (codes other) (codes g) → x1.length + g.length ≤ sizeLine ∧ N [some (.ref S), some (.ref pw), some (.ref p1), some (.str (x1 ++ g)), some (.str "0123456789"), some (.str one), some (.str other), z7, z8, z9] H2 := by
      intro Dq H2 g z7 z8 z9 sq hq hg
      have lg : g.length ≤ 3 := by rw [codes_len]; exact hg.2.2
      have lt : ([59] :: ws.map codes).length = ws.length + 1 := by rw [List.length_cons, List.length_map]
      refine ⟨by rw [sizeLine_eq]; omega, hN _ _ ⟨Dq, x1 ++ g, gs ++ [codes g], _, _, _, _, _, rfl, same_tr s6 sq, hq, sq _ _ e3, sq _ _ e5, sq _ _ e1, by rw [List.length_append, hgl]; rfl, ?_, ?_, ?_⟩⟩
      · rw [codes_app, hx1, hx, List.take_add_one, one1, List.append_assoc]
        exact (joinG_snoc _ _ _ _ (by rw [List.length_take, hgl]; omega)).symm
      · rw [codes_len, codes_app, List.length_append, ← codes_len, ← codes_len]
        omega
      · intro j a b g' hj h1 h2 h3
        by_cases hji : j < i
        · exact hgs j a b g' hji h1 h2 (by rw [List.getElem?_append_left (by omega)] at h3; exact h3)
        · have : j = i := by omega
          subst this
          rw [List.getElem?_append_right (by omega), hgl, Nat.sub_self] at h3
          rw [one1] at h1
          rw [oth1] at h2
          cases h1
          cases h2
          cases h3
          exact hg
    have q17 := s7 _ _ e1
    cases hb : (sgn c1 || (sgn d0 || (fig c0 && !fig d0)))
    · refine if_ne (by rfl) ?_
      refine ⟨_, S, fr, p1, _, rfl, h7, .inl q17, by simp, by simp, fun H2 v h2 hv => ?_⟩
      obtain ⟨g, hg, rfl⟩ : ∃ g ∈ gaps5, v = .str g := by
        have : v ∈ gaps5.map V.str := hv
        obtain ⟨g, hg, e⟩ := List.mem_map.mp this
        exact ⟨g, hg, e.symm⟩
      exact ⟨g, rfl, fin _ _ g _ _ _ s7 h2 (gaps5_ok _ _ g hg)⟩
    · refine if_eq (by rfl) ?_
      intro p8 n8
      have h8 := h7.tmp n8 (.lst [.str "", .str "", .str ""])
      refine ⟨_, h8.same _ _ q17, _, upd_same, by rw [sizeLine_eq]; decide, fun p9 n9 => ?_⟩
      obtain ⟨h9, s9⟩ := h8.new n9 (.lst ([.str " ", .str " ", .str "\n", .str "  ", .str " \n "] ++ [.str "", .str "", .str ""]))
      refine ⟨_, S, fr, p9, _, rfl, h9, .inl upd_same, by simp, by simp, fun H2 v h2 hv => ?_⟩
      obtain ⟨g, hg, rfl⟩ : ∃ g ∈ gaps8, v = .str g := by
        have : v ∈ gaps8.map V.str := hv
        obtain ⟨g, hg, e⟩ := List.mem_map.mp this
        exact ⟨g, hg, e.symm⟩
      refine ⟨g, rfl, fin _ _ g _ _ _ (same_tr s7 s9) h2 (gaps8_ok _ _ ?_ g hg)⟩
      rw [Bool.or_eq_true, Bool.or_eq_true, Bool.and_eq_true, Bool.not_eq_true'] at hb
      rcases hb with hb | hb | ⟨hb, hb2⟩
      · exact .inl ⟨c1, hc1, hb⟩
      · exact .inr (.inl ⟨d0, hd0, hb⟩)
      · exact .inr (.inr ⟨⟨c0, hc0, hb⟩, d0, hd0, hb2⟩)
  · rintro σ H6 ⟨D6, x, gs, y5, y6, y7, y8, y9, rfl, s6, h6, e3, e5, e1, hgl, hx, hxl, hgs⟩
    walk_at "st"
    walk_at "st"
    obtain ⟨t, et, gt⟩ := gl_of (ws.map codes) gs [59] (by rw [hgl, List.length_map]) (fun j a b g h1 h2 h3 => hgs j a b g (by have := (List.getElem?_eq_some_iff.mp h3).1; omega) h1 h2 h3)
    rw [List.take_of_length_le (by rw [List.length_cons, List.length_map]; exact Nat.le_refl _), et] at hx
    have hcut : codes (cutS x (some 1) none) = t := by
      show ((x.cps.toList.drop (HT.sIx x.length 0 (some ((1 : Nat) : Int)))).take (HT.sIx x.length x.length none - HT.sIx x.length 0 (some ((1 : Nat) : Int)))) = t
      rw [HT.sIx_none, HT.sIx_nat, show x.cps.toList = [59] ++ t from hx, codes_len, hx]
      simp
    refine ⟨by rw [sizeLine_eq]; omega, k _ _ _ s6 h6 (by rw [hcut]; exact gt) ?_⟩
    rw [codes_len, hcut]
    rw [codes_len, hx, List.length_append] at hxl
    omega
end
/-! ### text S2 -/
def spBook (K : PySem.W.Frag) : Sp := fun vs H Q _ => ∃ (I : Hp → List (Addr × HO) → Hp → Prop) (D : Hp) (fr : List (Addr × HO)) (z : Str) (d : Deal) (rows : List (List Str)), Ground I ∧ vs = [.str z] ∧ I D fr H ∧ d.Ok ∧ Told d rows ∧ Lx (cds z) 0 rows.flatten ∧ z.length ≤ 9000000 ∧
  ∀ (D' H' : Hp) (v : V), Same D D' → I D' fr H' → Dq K D' v d.book → Q v H'
section
variable {P : Program} {w : World} {K : PySem.W.Frag} {mg : Str → Option Value} {base : Heap}
theorem sc_read_book : FnScope ["value"] ["value"] (defScope s_read_book) := ⟨rfl, rfl, rfl, by decide +kernel, rfl, by decide +kernel, by decide +kernel⟩
theorem len_book {vs : List V} {H : Hp} {Q : VK} {E : XK} (h : spBook K vs H Q E) : vs.length = ["value"].length := by
  obtain ⟨I, D, fr, z, d, rows, gI, rfl, _⟩ := h
  rfl
theorem b_read_book (T : Txt K mg) : Body P w K mg base ["value"] "read_book" s_read_book 13 (spBook K) := by
  have h_Reader : C8.Mak P w K mg base 3 "Reader" (He.ga K "Reader") (spRdrI K) [] := c_Reader_init T
  have h_Reader_read := c_Reader_read (P := P) (w := w) (base := base) T
  intro f cdv A outer s H vs Q E hr h
  obtain ⟨I, D, fr, z, d, rows, gI, rfl, h, ok, told, hlx, hz, k⟩ := h
  refine ⟨_, (pss_cons (ps_if (pt_not (pt_val (pe_callB call_isi (by rfl) T.b_isinstance boot_isinstance (pa_cons (pv 0) (pa_cons (pe_bltn (v := .ty "str") (by rfl) T.b_str boot_str rfl) pa_nil))))) (pss_one ps_never) pss_nil) (pss_one (ps_ret (C8.pe_mt0 h_Reader_read hr (by decide) (C8.pe_mk h_Reader hr (by decide) rfl (pa_cons (pv 0) pa_nil)))))), ?_⟩
  show tSeq _ _ _ [some (.str z)] H
  walk_at "st"
  refine ⟨_, _, .ty _, .base (.str z), true, kit_ty (by decide +kernel), ?_⟩
  refine if_ne rfl fun x dx nx ndx hne => ?_
  have h1 := gI.tmp (.own x) h ndx
  have h2 := gI.put (p := x) (.ins (He.ga K "Reader") dx []) h1 (by rw [upd_ne (Ne.symm hne)]; exact nx)
  refine ⟨I, D, fr, x, dx, z, gI, rfl, h2, fun D3 H3 Tk dt p n o hh s3 h3 => ⟨rfl, ?_⟩⟩
  have f3 := gI.get 5 h3 rfl
  refine ⟨_, _, f3, rfl, I, D3, fr, ⟨Tk, p, n, o, hh, x, dx⟩, d, rows, gI, rfl, ok, told, ?_, fun D4 H4 v4 s4 h4 hv4 => k _ _ _ (same_tr s3 s4) h4 hv4⟩
  exact ⟨_, Nat.succ_pos _, h3, dt, z, 0, .non, rfl, hz, .inl ⟨rfl, hlx⟩⟩
theorem c_read_book (T : Txt K mg) : C8.Cal P w K mg base 14 "read_book" (spBook K) [] :=
  cal_mk T.d_read_book sc_read_book (fun _ _ _ _ _ _ us hl => match us, hl with | [_], _ => rfl) (fun _ _ _ _ h => len_book h) (b_read_book T)
end
/-- a def of one parameter, called by its keyword -/
structure CalK (P : Program) (w : World) (K : PySem.W.Frag) (mg : Str → Option Value) (base : Heap) (k : Nat) (x y : Str) (sp : Sp) : Prop where
  ex : ∃ (f : Addr) (fd : FuncData), FnOk P w K mg base CX0 k f fd [y] sp ∧ mg x = some (.ref f) ∧ PySem.W.keepIn K (.ref f) = true ∧ ∀ (s : Shared) (u : Value), BindsTo s fd ⟨[], [(y, u)]⟩ [(y, u)]
section
variable {P : Program} {w : World} {K : PySem.W.Frag} {mg : Str → Option Value} {base : Heap}
theorem k_read_book (T : Txt K mg) : CalK P w K mg base 14 "read_book" "value" (spBook K) := by
  obtain ⟨f, fd, F, g⟩ := T.d_read_book.ex
  refine ⟨f, fd, F.ok sc_read_book (fun _ _ _ _ h => len_book h) (fun cdv A outer s H vs Q E hr h => ?_), g, F.kp, fun s u => ?_⟩
  · obtain ⟨t, ht, q⟩ := b_read_book (P := P) (w := w) (base := base) T f cdv A outer s H vs Q E hr h
    exact ⟨t, PSs.nox ht, q⟩
  · obtain ⟨oc, od, dV, kV, doc, pm, an, cdv, ct, osl, rfl, _, _, hD, _⟩ := F.ex
    rcases hD with ⟨_, rfl⟩ | ⟨e, _⟩
    · exact .of_eq rfl
    · exact absurd rfl e
end
def tCallK1 (sp : Sp) (te : TE) : TE := fun σ H Q => te σ H fun x H1 => sp [x] H1 Q C8.E0
section
variable {X : Cx} {k j : Nat} {x y : Str} {sp : Sp} {p pos kpos : Pos} {e : Expr} {te : TE}
theorem u_callK1 {σ : L2.St} {H : Hp} {Q : VK} : tCallK1 sp te σ H Q = te σ H fun x H1 => sp [x] H1 Q C8.E0 := rfl
theorem pe_k1 (c : CalK X.prog X.w X.K X.mg X.base k x y sp) (hr : Room j X.A) (hj : k ≤ j) (hg : L2.Gl X x) (he : PE X e te)
    (ha : (backToKw pos (keywordEach [⟨some y, e, kpos⟩] X.env)).all (fun z => z.1.isSome) = true := by rfl) (hks : (backToKw pos (keywordEach [⟨some y, e, kpos⟩] X.env)).filterMap (fun z => z.1) = [y] := by rfl)
    (hdb : (x == ("__debug__" : Str)) = false := by decide)
    (hpl : ((backTo pos (starEach [] X.env)).any (·.1) || (backToKw pos (keywordEach [⟨some y, e, kpos⟩] X.env)).any (·.1.isNone)) = false := by rfl) :
    PE X (.Call (.Name x p) [] [⟨some y, e, kpos⟩] pos) (tCallK1 sp te) := by
  obtain ⟨f, fd, F, hm, kp, hb⟩ := c.ex
  refine ⟨fun pins s σ H Q I h => ?_⟩
  refine wpAny_Call_Name_kw (ld_glob I hg hm ?_ hdb)
  refine PySem.W.callWith_KW0 (h₀ := X.base) I.ok.mod.kin kp ha ?_ hpl
  have hrun := (pk_cons (nm := some y) (kpos := kpos) he pk_nil).run pos pins s σ H (fun vs H1 => sp vs H1 Q C8.E0) I h
  refine thn hrun fun us s1 ⟨vs, H1, I1, r1, q1⟩ => ⟨I1.kIn, ?_⟩
  rw [hks]
  have hl := F.len _ _ _ _ q1
  have e1 := r1.length
  obtain ⟨u, rfl⟩ : ∃ u, us = [u] := by
    rw [hl] at e1
    cases us with
    | nil => cases e1
    | cons u us =>
      cases us with
      | nil => exact ⟨u, rfl⟩
      | cons u2 us => simp at e1
  refine wpAny_call (codeAny_mono (F.run X.A X.stack s1 H1 ⟨[], [(y, u)]⟩ [u] vs Q C8.E0 (hr.mono hj) I1.env0 (hb s1 u) r1 q1) fun r s2 hq => ?_)
  cases r with
  | error e => exact hq.elim
  | ok fl =>
    cases fl with
    | ret u => exact I1.after hq
    | next => exact False.elim hq
    | brk => exact False.elim hq
    | cont => exact False.elim hq
end
/-! ### text W2 -/
/-! ## a raw deal is a good deal -/
theorem nm_idx {ns : List Str} (nd : ns.Nodup) {v : Nat} (h : v < ns.length) : ns.idxOf (nmAt ns v) = v := by
  obtain ⟨hl, he⟩ := List.getElem?_eq_some_iff.mp (nm_at h)
  rw [← he]
  exact nd.idxOf_getElem v hl
theorem nm_take {ns : List Str} {v m : Nat} (h : v < m) (hm : m ≤ ns.length) : nmAt ns v ∈ ns.take m := by
  refine List.mem_of_getElem? (i := v) ?_
  rw [List.getElem?_take, if_pos h, nm_at (by omega)]
section
variable {d : Deal} {ns : List Str} {many : Nat} {es : List (Nat × Nat)}
theorem Raw.mem (h : Raw d ns many es) {r : Bk.Rd} (hr : r ∈ d.roads) : ∃ j e lo hi, es[j]? = some e ∧ r = ⟨nmAt ns (many + j), nmAt ns e.1, nmAt ns e.2, lo, hi⟩ ∧ lo ≤ 10 ^ 28 ∧ ∀ x, hi = some x → lo ≤ x ∧ x ≤ 10 ^ 28 := by
  obtain ⟨j, hj⟩ := List.mem_iff_getElem?.mp hr
  have hl := (List.getElem?_eq_some_iff.mp hj).1
  rw [h.roadsN] at hl
  have he := List.getElem?_eq_getElem hl
  obtain ⟨lo, hi, e1, e2, e3⟩ := h.roads j _ he
  rw [hj] at e1
  exact ⟨j, _, lo, hi, he, Option.some.inj e1, e2, e3⟩
theorem Raw.names (h : Raw d ns many es) : d.names = ns.drop many := by
  refine List.ext_getElem? fun j => ?_
  unfold Deal.names
  rw [List.getElem?_map, List.getElem?_drop]
  by_cases hj : j < es.length
  · obtain ⟨lo, hi, e1, _⟩ := h.roads j _ (List.getElem?_eq_getElem hj)
    rw [e1, nm_at (by rw [h.len]; omega)] <;> rfl
  · rw [List.getElem?_eq_none (by rw [h.roadsN]; omega), List.getElem?_eq_none (by rw [h.len]; omega)] <;> rfl
theorem Raw.ends (h : Raw d ns many es) : d.ends = mapE (nmAt ns) es := by
  refine List.ext_getElem? fun j => ?_
  unfold Deal.ends mapE
  rw [List.getElem?_map, List.getElem?_map]
  by_cases hj : j < es.length
  · have he := List.getElem?_eq_getElem hj
    obtain ⟨lo, hi, e1, _⟩ := h.roads j _ he
    rw [e1, he] <;> rfl
  · rw [List.getElem?_eq_none (by rw [h.roadsN]; omega), List.getElem?_eq_none (by omega)] <;> rfl
theorem Raw.ok (h : Raw d ns many es) : d.Ok := by
  have m2 := h.m2
  have hl := h.len
  have hin : ∀ v, v < many → nmAt ns v ∈ d.places := fun v hv => h.places.mem_iff.mpr (nm_take hv (by omega))
  have hp : (d.places ++ d.names).Perm ns := by
    rw [h.names]
    exact (h.places.append_right _).trans (by rw [List.take_append_drop])
  have hne : ∀ u v, u < many → v < many → u ≠ v → nmAt ns u ≠ nmAt ns v := fun u v hu hv huv z => by
    have e1 := nm_idx h.nd (v := u) (by omega)
    have e2 := nm_idx h.nd (v := v) (by omega)
    rw [z] at e1
    omega
  have hed : ∀ (j : Nat) (e : Nat × Nat), es[j]? = some e → e.1 < e.2 ∧ e.2 < many := fun j e he => h.edge e (List.mem_of_getElem? he)
  exact {
    nms := fun x hx => h.nm x (hp.mem_iff.mp hx)
    nd := hp.nodup_iff.mpr h.nd
    few := by
      rw [h.places.length_eq, List.length_take]
      have := h.m7
      omega
    inn := by
      rw [h.inn]
      exact hin 0 (by omega)
    out := by
      rw [h.out]
      exact hin _ (by omega)
    inout := by
      rw [h.inn, h.out]
      exact hne _ _ (by omega) (by omega) (by omega)
    some_ := fun z => h.ne (by
      have e := h.roadsN
      rw [z] at e
      exact List.length_eq_zero_iff.mp e.symm)
    roadsN := by
      rw [h.roadsN]
      exact Nat.le_trans h.few (by decide)
    foot := fun r hr => by
      obtain ⟨j, e, lo, hi, he, rfl, _⟩ := h.mem hr
      have := hed j e he
      refine ⟨hin _ (by omega), ?_⟩
      rw [h.out]
      exact hne _ _ (by omega) (by omega) (by omega)
    head := fun r hr => by
      obtain ⟨j, e, lo, hi, he, rfl, _⟩ := h.mem hr
      have := hed j e he
      refine ⟨hin _ (by omega), ?_⟩
      rw [h.inn]
      exact hne _ _ (by omega) (by omega) (by omega)
    rank := ⟨fun x => ns.idxOf x, fun r hr => by
      obtain ⟨j, e, lo, hi, he, rfl, _⟩ := h.mem hr
      have := hed j e he
      show ns.idxOf (nmAt ns e.1) < ns.idxOf (nmAt ns e.2)
      rw [nm_idx h.nd (by omega), nm_idx h.nd (by omega)]
      exact this.1⟩
    hole := fun r hr => by
      obtain ⟨j, e, lo, hi, he, rfl, h1, h2⟩ := h.mem hr
      exact ⟨h1, h2⟩
    known := fun k hk => by
      obtain ⟨h1, h2, h3, h4, h5⟩ := h.known k hk
      refine ⟨h1, h2, by omega, h4, ?_⟩
      rw [h.ends, h.inn, h.out]
      exact h3.mapE (nmAt ns)
    knownN := Nat.le_trans h.knownN (by decide)
    asks := fun a ha => by
      rw [h.ends]
      exact (h.asks a ha).mapE (nmAt ns)
    asksN := Nat.le_trans h.asksN (by decide) }
end
/-! ### text W3 -/
/-! ## a good deal stays one when its roads are mixed -/
section
variable {α : Type} {es es' : List (α × α)} {g : Nat → Nat}
/-- the roads stand at other numbers -/
structure Mix (es es' : List (α × α)) (g : Nat → Nat) : Prop where
  len : es'.length = es.length
  get : ∀ i, i < es.length → g i < es.length ∧ es'[g i]? = es[i]?
  inj : ∀ i j, i < es.length → j < es.length → g i = g j → i = j
theorem Mix.path (m : Mix es es' g) {u v : α} {t : List Nat} (h : Path es u t v) : Path es' u (t.map g) v := by
  induction h with
  | nil u => exact .nil u
  | cons h _ ih => exact .cons (by rw [(m.get _ (List.getElem?_eq_some_iff.mp h).1).2]; exact h) ih
theorem Mix.qu (m : Mix es es' g) {q q' : Qu} (h : MvQ g q q') (ok : QuOk es q) : QuOk es' q' := by
  cases h with
  | along t =>
    cases ok with
    | along h1 h2 =>
      obtain ⟨h0, u, v, p⟩ := h1
      exact .along ⟨fun z => h0 (List.map_eq_nil_iff.mp z), u, v, m.path p⟩ (by rw [List.length_map]; exact h2)
  | touch t u hp hs =>
    cases ok with
    | touch h1 h2 h3 =>
      refine .touch (fun z => ?_) (fun i hi => ?_) ?_
      · subst z
        exact h1 (List.map_eq_nil_iff.mp (List.Perm.nil_eq hp).symm)
      · obtain ⟨j, hj, rfl⟩ := List.mem_map.mp (hp.mem_iff.mp hi)
        rw [m.len]
        exact (m.get j (h2 j hj)).1
      · have nd : (t.map g).Nodup := by
          unfold List.Nodup
          rw [List.pairwise_map]
          refine h3.imp_of_mem fun {a b} ha hb hab z => ?_
          have := m.inj a b (h2 a ha) (h2 b hb) z
          omega
        have nu : u.Nodup := hp.nodup_iff.mpr nd
        exact (hs.and nu).imp fun {a b} hab => by have := hab.1; have := hab.2; omega
  | both a b =>
    cases ok with
    | both h1 h2 => exact .both (by rw [m.len]; exact (m.get _ h1).1) (by rw [m.len]; exact (m.get _ h2).1)
theorem MvS.nots {s s' : Sa} (h : MvS g s s') : s'.nots = s.nots := by
  induction h with
  | least n h => rfl
  | most n h => rfl
  | follow a b => rfl
  | no h ih => exact congrArg (· + 1) ih
theorem Mix.sa (m : Mix es es' g) {s s' : Sa} (h : MvS g s s') (ok : SaOk es s) : SaOk es' s' := by
  induction h with
  | least n h =>
    cases ok with
    | least h1 h2 => exact .least h1 (m.qu h h2)
  | most n h =>
    cases ok with
    | most h1 h2 => exact .most h1 (m.qu h h2)
  | follow a b =>
    cases ok with
    | follow h1 h2 => exact .follow (by rw [m.len]; exact (m.get _ h1).1) (by rw [m.len]; exact (m.get _ h2).1)
  | no h ih =>
    cases ok with
    | no h1 => exact .no (ih h1)
theorem Mix.as_ (m : Mix es es' g) {a a' : As} (h : MvA g a a') (ok : AsOk es a) : AsOk es' a' := by
  cases h with
  | least h =>
    cases ok with
    | least h2 => exact .least (m.qu h h2)
  | most h =>
    cases ok with
    | most h2 => exact .most (m.qu h h2)
  | followers a =>
    cases ok with
    | followers h1 => exact .followers (by rw [m.len]; exact (m.get _ h1).1)
  | sure => exact .sure
  | say h =>
    cases ok with
    | say h1 h2 => exact .say (m.sa h h1) (by rw [h.nots]; exact h2)
end
theorem perm_pick {α : Type} {l l' : List α} {o : List Nat} (ho : o.Perm (List.range l.length)) (hl : l'.length = o.length) (hr : ∀ (j i : Nat), o[j]? = some i → l'[j]? = l[i]?) : l'.Perm l := by
  have e1 : l'.map some = o.map fun i => l[i]? := by
    refine List.ext_getElem? fun j => ?_
    rw [List.getElem?_map, List.getElem?_map]
    by_cases hj : j < o.length
    · have e := List.getElem?_eq_getElem hj
      have e2 := hr j _ e
      rw [e, List.getElem?_eq_getElem (l := l') (by omega)] at *
      rw [Option.map_some, Option.map_some, ← e2]
    · rw [List.getElem?_eq_none (l := o) (by omega), List.getElem?_eq_none (l := l') (by omega)] <;> rfl
  have e2 : (List.range l.length).map (fun i => l[i]?) = l.map some := by
    refine List.ext_getElem? fun j => ?_
    rw [List.getElem?_map, List.getElem?_map]
    by_cases hj : j < l.length
    · rw [List.getElem?_range hj, List.getElem?_eq_getElem hj]
      show some (l[j]?) = _
      rw [List.getElem?_eq_getElem hj] <;> rfl
    · rw [List.getElem?_eq_none (l := List.range l.length) (by simp; omega), List.getElem?_eq_none (l := l) (by omega)] <;> rfl
  have hp : (l'.map some).Perm (l.map some) := by
    rw [e1, ← e2]
    exact ho.map _
  obtain ⟨l2, h2, h3⟩ := perm_map_inv hp l rfl
  have : l' = l2 := (List.map_inj_right fun x y h => Option.some.inj h).mp h2
  rw [this]
  exact h3
theorem Deal.Ok.mix {d : Deal} (h : d.Ok) {o : List Nat} {roads : List Bk.Rd} {known : List (Nat × List Nat)} {asks : List As} (ho : o.Perm (List.range d.roads.length)) (hl : roads.length = o.length) (hr : ∀ (j i : Nat), o[j]? = some i → roads[j]? = d.roads[i]?)
    (hk : known = d.known.map (fun k => (k.1, k.2.map fun i => o.idxOf i))) (hal : asks.length = d.asks.length) (ha : ∀ (j : Nat) (a b : As), d.asks[j]? = some a → asks[j]? = some b → MvA (fun i => o.idxOf i) a b) : Deal.Ok ⟨d.places, d.inn, d.out, roads, known, asks⟩ := by
  have pr : roads.Perm d.roads := perm_pick ho hl hr
  have hon : o.length = d.roads.length := by rw [ho.length_eq, List.length_range]
  have m : Mix d.ends (Deal.ends ⟨d.places, d.inn, d.out, roads, known, asks⟩) (fun i => o.idxOf i) := by
    have el : d.ends.length = d.roads.length := List.length_map _
    have mem : ∀ i, i < d.ends.length → ∃ hi : o.idxOf i < o.length, o[o.idxOf i] = i := fun i hi => by
      have hm : i ∈ o := ho.mem_iff.mpr (List.mem_range.mpr (by omega))
      exact ⟨List.idxOf_lt_length_of_mem hm, List.getElem_idxOf _⟩
    refine ⟨by rw [el]; show (roads.map _).length = _; rw [List.length_map, hl, hon], fun i hi => ?_, fun i j hi hj z => ?_⟩
    · obtain ⟨h1, h2⟩ := mem i hi
      refine ⟨by show o.idxOf i < _; omega, ?_⟩
      show (roads.map fun r => (r.ft, r.hd))[o.idxOf i]? = (d.roads.map fun r => (r.ft, r.hd))[i]?
      rw [List.getElem?_map, List.getElem?_map, hr (o.idxOf i) i (by rw [List.getElem?_eq_getElem h1, h2])]
    · obtain ⟨h1, h2⟩ := mem i hi
      obtain ⟨h3, h4⟩ := mem j hj
      have z : o.idxOf i = o.idxOf j := z
      rw [← h2, ← h4]
      simp only [z]
  exact {
    nms := fun x hx => h.nms x (((pr.map Rd.nm).append_left d.places).mem_iff.mp hx)
    nd := ((pr.map Rd.nm).append_left d.places).nodup_iff.mpr h.nd
    few := h.few
    inn := h.inn
    out := h.out
    inout := h.inout
    some_ := fun z => h.some_ (by
      have z : roads = [] := z
      subst z
      exact (List.Perm.nil_eq pr).symm)
    roadsN := by
      show roads.length ≤ 60
      rw [pr.length_eq]
      exact h.roadsN
    foot := fun r hr => h.foot r (pr.mem_iff.mp hr)
    head := fun r hr => h.head r (pr.mem_iff.mp hr)
    rank := by
      obtain ⟨f, hf⟩ := h.rank
      exact ⟨f, fun r hr => hf r (pr.mem_iff.mp hr)⟩
    hole := fun r hr => h.hole r (pr.mem_iff.mp hr)
    known := fun k hk2 => by
      have hk2 : k ∈ known := hk2
      rw [hk] at hk2
      obtain ⟨k0, hk0, rfl⟩ := List.mem_map.mp hk2
      obtain ⟨h1, h2, h3, h4, h5⟩ := h.known k0 hk0
      exact ⟨h1, h2, by show (k0.2.map _).length ≤ 60; rw [List.length_map]; exact h3, fun z => h4 (List.map_eq_nil_iff.mp z), m.path h5⟩
    knownN := by
      show known.length ≤ 60
      rw [hk, List.length_map]
      exact h.knownN
    asks := fun b hb => by
      obtain ⟨j, hj⟩ := List.mem_iff_getElem?.mp hb
      have hj : asks[j]? = some b := hj
      have hlt := (List.getElem?_eq_some_iff.mp hj).1
      have e := List.getElem?_eq_getElem (l := d.asks) (i := j) (by omega)
      exact m.as_ (ha j _ b e hj) (h.asks _ (List.mem_of_getElem? e))
    asksN := by
      show asks.length ≤ 40
      rw [hal]
      exact h.asksN }
/-! ### text W5 -/
/-! ## what lines makes tells the deal -/
theorem touch_cut {a t u : List Str} : ∀ {pre : List Str}, ("touch" : Str) ∉ a → ("touch" : Str) ∉ pre → a ++ ("touch" : Str) :: t = pre ++ ("touch" : Str) :: u → a = pre ∧ t = u := by
  induction a with
  | nil =>
    intro pre _ h2 e
    cases pre with
    | nil => exact ⟨rfl, (List.cons.inj e).2⟩
    | cons x p => exact absurd (List.cons.inj e).1 (fun z => h2 (by rw [z]; exact List.mem_cons_self))
  | cons y a ih =>
    intro pre h1 h2 e
    cases pre with
    | nil => exact absurd (List.cons.inj e).1 (fun z => h1 (by rw [← z]; exact List.mem_cons_self))
    | cons x p =>
      obtain ⟨e1, e2⟩ := List.cons.inj e
      obtain ⟨i1, i2⟩ := ih (fun z => h1 (List.mem_cons_of_mem _ z)) (fun z => h2 (List.mem_cons_of_mem _ z)) e2
      exact ⟨by rw [e1, i1], i2⟩
section
variable {names : List Str}
theorem nm_noTouch (hn : ∀ x ∈ names, named x = true) {i : Nat} (hi : i < names.length) : nmAt names i ≠ "touch" := fun z => by
  have h := hn _ (List.mem_of_getElem? (nm_at hi))
  rw [z] at h
  exact absurd h (by decide +kernel)
theorem nms_noTouch (hn : ∀ x ∈ names, named x = true) {t : List Nat} (ht : ∀ i ∈ t, i < names.length) : ("touch" : Str) ∉ t.map (nmAt names) := fun z => by
  obtain ⟨i, hi, e⟩ := List.mem_map.mp z
  exact nm_noTouch hn (ht i hi) e
theorem Tw.qu (hn : ∀ x ∈ names, named x = true) {q : Qu} (hq : q.Lt names.length) {pre w : List Str} (hp : ("touch" : Str) ∉ pre) (h : Tw (pre ++ q.w names) w) : ∃ w', w = pre ++ w' ∧ QuW names q w' := by
  generalize ez : pre ++ q.w names = z at h
  cases q with
  | touch t =>
    cases h with
    | same h => exact absurd (by rw [← ez]; exact List.mem_append_right _ List.mem_cons_self) h
    | shuf h1 h2 =>
      obtain ⟨e1, e2⟩ := touch_cut hp h1 ez
      subst e1
      subst e2
      obtain ⟨u, rfl, hu⟩ := perm_map_inv h2 t rfl
      exact ⟨_, rfl, .touch t u hu⟩
  | along t =>
    have hno : ("touch" : Str) ∉ z := by
      rw [← ez, List.mem_append]
      rintro (h | h)
      · exact hp h
      · rcases List.mem_cons.mp h with h | h
        · exact absurd h (by decide +kernel)
        · exact nms_noTouch hn hq.1 h
    cases h with
    | same h => exact ⟨_, ez.symm, .along t⟩
    | shuf h1 h2 => exact absurd (List.mem_append_right _ List.mem_cons_self) hno
  | both a b =>
    have hno : ("touch" : Str) ∉ z := by
      rw [← ez, List.mem_append]
      rintro (h | h)
      · exact hp h
      · rcases List.mem_cons.mp h with h | h
        · exact absurd h (by decide +kernel)
        · rcases List.mem_cons.mp h with h | h
          · exact nm_noTouch hn hq.1 h.symm
          · exact nm_noTouch hn hq.2 (List.mem_singleton.mp h).symm
    cases h with
    | same h => exact ⟨_, ez.symm, .both a b⟩
    | shuf h1 h2 => exact absurd (List.mem_append_right _ List.mem_cons_self) hno
theorem num_noTouch (n : Nat) : num n ≠ "touch" := fun z => by
  have h := counted_num n
  rw [z] at h
  exact absurd h (by decide +kernel)
theorem Tw.sa (hn : ∀ x ∈ names, named x = true) : ∀ {s : Sa}, s.Lt names.length → ∀ {pre w : List Str}, ("touch" : Str) ∉ pre → Tw (pre ++ s.w names) w → ∃ w', w = pre ++ w' ∧ SaW names s w'
  | .least n q, hl, pre, w, hp, h => by
    rw [show pre ++ (Sa.least n q).w names = (pre ++ [("least" : Str), num n]) ++ q.w names by simp [Sa.w]] at h
    obtain ⟨w', e, hw⟩ := Tw.qu hn hl.2 (by
      rw [List.mem_append]
      rintro (h | h)
      · exact hp h
      · rcases List.mem_cons.mp h with h | h
        · exact absurd h (by decide +kernel)
        · exact num_noTouch n (List.mem_singleton.mp h).symm) h
    exact ⟨_, by rw [e, List.append_assoc] <;> rfl, .least n hw⟩
  | .most n q, hl, pre, w, hp, h => by
    rw [show pre ++ (Sa.most n q).w names = (pre ++ [("most" : Str), num n]) ++ q.w names by simp [Sa.w]] at h
    obtain ⟨w', e, hw⟩ := Tw.qu hn hl.2 (by
      rw [List.mem_append]
      rintro (h | h)
      · exact hp h
      · rcases List.mem_cons.mp h with h | h
        · exact absurd h (by decide +kernel)
        · exact num_noTouch n (List.mem_singleton.mp h).symm) h
    exact ⟨_, by rw [e, List.append_assoc] <;> rfl, .most n hw⟩
  | .follow a b, hl, pre, w, hp, h => by
    generalize ez : pre ++ (Sa.follow a b).w names = z at h
    have hno : ("touch" : Str) ∉ z := by
      rw [← ez, List.mem_append]
      rintro (h | h)
      · exact hp h
      · rcases List.mem_cons.mp h with h | h
        · exact absurd h (by decide +kernel)
        · rcases List.mem_cons.mp h with h | h
          · exact nm_noTouch hn hl.1 h.symm
          · exact nm_noTouch hn hl.2 (List.mem_singleton.mp h).symm
    cases h with
    | same h => exact ⟨_, ez.symm, .follow a b⟩
    | shuf h1 h2 => exact absurd (List.mem_append_right _ List.mem_cons_self) hno
  | .no s, hl, pre, w, hp, h => by
    rw [show pre ++ (Sa.no s).w names = (pre ++ [("not" : Str)]) ++ s.w names by simp [Sa.w]] at h
    obtain ⟨w', e, hw⟩ := Tw.sa hn (s := s) hl (by
      rw [List.mem_append]
      rintro (h | h)
      · exact hp h
      · exact absurd (List.mem_singleton.mp h) (by decide +kernel)) h
    exact ⟨_, by rw [e, List.append_assoc] <;> rfl, .no hw⟩
theorem Tw.as_ (hn : ∀ x ∈ names, named x = true) {a : As} (hl : a.Lt names.length) {w : List Str} (h : Tw (a.w names) w) : AsW names a w := by
  cases a with
  | least q =>
    obtain ⟨w', e, hw⟩ := Tw.qu (pre := ["ask", "least"]) hn hl (by decide +kernel) h
    subst e
    exact .least hw
  | most q =>
    obtain ⟨w', e, hw⟩ := Tw.qu (pre := ["ask", "most"]) hn hl (by decide +kernel) h
    subst e
    exact .most hw
  | followers a =>
    generalize ez : (As.followers a).w names = z at h
    have hno : ("touch" : Str) ∉ z := by
      rw [← ez]
      intro h
      rcases List.mem_cons.mp h with h | h
      · exact absurd h (by decide +kernel)
      · rcases List.mem_cons.mp h with h | h
        · exact absurd h (by decide +kernel)
        · exact nm_noTouch hn hl (List.mem_singleton.mp h).symm
    cases h with
    | same h => subst ez; exact .followers a
    | shuf h1 h2 => exact absurd (List.mem_append_right _ List.mem_cons_self) hno
  | sure =>
    generalize ez : As.sure.w names = z at h
    have hno : ("touch" : Str) ∉ z := by
      rw [← ez]
      show ("touch" : Str) ∉ (["ask", "sure"] : List Str)
      decide +kernel
    cases h with
    | same h => subst ez; exact .sure
    | shuf h1 h2 => exact absurd (List.mem_append_right _ List.mem_cons_self) hno
  | say s =>
    obtain ⟨w', e, hw⟩ := Tw.sa (pre := ["say"]) hn hl.1 (by decide +kernel) h
    subst e
    exact .say hw
end
theorem All2.rowsM {α : Type} {R R' : α → List Str → Prop} : ∀ {as : List α} {ws : List (List Str)}, (∀ a ∈ as, ∀ w, R a w → R' a w) → All2 R as ws → Rows R' as (ws.map (· ++ sc1))
  | _, _, _, .nil => .nil
  | _, _, h, .cons r t => .cons (h _ List.mem_cons_self _ r) (t.rowsM fun a ha => h a (List.mem_cons_of_mem _ ha))
theorem Told0.told {d : Deal} {rows : List (List Str)} (h : Told0 d rows) (hn : ∀ x ∈ d.names, named x = true) (hl : ∀ a ∈ d.asks, a.Lt d.names.length) : Told d rows := by
  obtain ⟨rw_, kw, aw, h1, h2, h3, e⟩ := h
  refine ⟨_, _, _, h1.rowsM fun _ _ _ z => z, h2.rowsM fun _ _ _ z => z, h3.rowsM fun a ha w hw => Tw.as_ hn (hl a ha) hw, ?_⟩
  rw [e, List.map_cons, List.map_cons, List.map_cons, List.map_append, List.map_append] <;> rfl
/-! ### text W6 -/
/-! ## tokens joined with gaps are read back -/
/-- a good token -/
inductive Tk : Str → Prop
  | word {x : Str} {c : Nat} {cs : List Nat} : cds x = c :: cs → letter c = true → (∀ b ∈ cs, lefi b = true) → (x.length ≤ 8 ∨ x ∈ kws) → Tk x
  | number {x : Str} {c : Nat} {cs : List Nat} : cds x = c :: cs → (∀ b ∈ c :: cs, figure b = true) → (x = "0" ∨ (c ≠ 48 ∧ x.length ≤ 31)) → Tk x
  | sign {c : Nat} : single c = true → Tk ⟨#[c]⟩
  | dots : Tk ".."
theorem dots_cds : cds ".." = [46, 46] := by decide +kernel
theorem Tk.first {w : Str} (h : Tk w) : ∃ c cs, cds w = c :: cs ∧ blank c = false := by
  cases h with
  | word e hc _ _ =>
    refine ⟨_, _, e, ?_⟩
    unfold letter at hc
    unfold blank
    simp only [Bool.and_eq_true, decide_eq_true_eq] at hc
    simp only [Bool.or_eq_false_iff, beq_eq_false_iff_ne]
    omega
  | number e hc _ =>
    refine ⟨_, _, e, ?_⟩
    have hc := hc _ List.mem_cons_self
    unfold figure at hc
    unfold blank
    simp only [Bool.and_eq_true, decide_eq_true_eq] at hc
    simp only [Bool.or_eq_false_iff, beq_eq_false_iff_ne]
    omega
  | sign hc =>
    refine ⟨_, [], rfl, ?_⟩
    unfold single at hc
    unfold blank
    simp only [Bool.or_eq_true, beq_iff_eq] at hc
    simp only [Bool.or_eq_false_iff, beq_eq_false_iff_ne]
    omega
  | dots => exact ⟨46, [46], dots_cds, by decide⟩
theorem kws_short : ∀ x ∈ kws, x.length ≤ 40 := by
  have h : kws.all (fun x => decide (x.length ≤ 40)) = true := by decide +kernel
  intro x hx
  exact of_decide_eq_true (List.all_eq_true.mp h x hx)
theorem Tk.short {w : Str} (h : Tk w) : w.length ≤ 40 := by
  cases h with
  | word e _ _ hs =>
    rcases hs with hs | hs
    · omega
    · exact kws_short _ hs
  | number e _ hs =>
    rcases hs with rfl | ⟨_, hs⟩
    · decide +kernel
    · omega
  | sign _ => exact (by decide : (1 : Nat) ≤ 40)
  | dots => decide +kernel
theorem take_app {S : Nat → Bool} {a t : List Nat} (h1 : ∀ b ∈ a, S b = true) (h2 : ∀ c, t.head? = some c → S c = false) : (a ++ t).takeWhile S = a := by
  rw [List.takeWhile_append_of_pos h1]
  cases t with
  | nil => rw [List.takeWhile_nil, List.append_nil]
  | cons c t => rw [List.takeWhile_cons_of_neg (by rw [h2 c rfl]; decide), List.append_nil]
/-- what comes behind a token -/
theorem Gl.head {prev t : List Nat} {ws : List (List Nat)} (h : Gl prev ws t) (hw : ∀ w ∈ ws, w ≠ []) : ∀ c, t.head? = some c → blank c = true ∨ ∃ w, w.head? = some c ∧ FreeG prev w := by
  have bl : ∀ c : Nat, c = 32 ∨ c = 10 → blank c = true := fun c hc => by
    rcases hc with rfl | rfl <;> decide
  intro c hc
  cases h with
  | nil hg => exact .inl (bl c (hg.1 c (List.mem_of_mem_head? hc)))
  | @cons _ w g t ws hg _ =>
    cases g with
    | cons b g =>
      have e : b = c := Option.some.inj hc
      exact .inl (bl c (hg.1 c (by rw [e]; exact List.mem_cons_self)))
    | nil =>
      refine .inr ⟨w, ?_, hg.2.1 rfl⟩
      cases w with
      | nil => exact absurd rfl (hw [] List.mem_cons_self)
      | cons b w => exact hc
theorem sgn_lefi {c : Nat} (h : sgn c = true) : lefi c = false := by
  unfold sgn at h
  unfold lefi letter figure
  simp only [Bool.or_eq_true, beq_iff_eq] at h
  simp only [Bool.or_eq_false_iff, Bool.and_eq_false_iff, decide_eq_false_iff_not]
  omega
theorem blank_lefi {c : Nat} (h : blank c = true) : lefi c = false := by
  unfold blank at h
  unfold lefi letter figure
  simp only [Bool.or_eq_true, beq_iff_eq] at h
  simp only [Bool.or_eq_false_iff, Bool.and_eq_false_iff, decide_eq_false_iff_not]
  omega
theorem lefi_figure {c : Nat} (h : lefi c = false) : figure c = false := by
  unfold lefi at h
  exact (Bool.or_eq_false_iff.mp h).2
theorem Tk.at_ {w : Str} (h : Tk w) {pre t : List Nat} {ws : List (List Nat)} (g : Gl (codes w) ws t) (hw : ∀ w ∈ ws, w ≠ []) : TokAt (pre ++ (cds w ++ t)) pre.length w := by
  have hd : (pre ++ (cds w ++ t)).drop pre.length = cds w ++ t := by
    rw [List.drop_append_of_le_length (Nat.le_refl _), List.drop_length, List.nil_append]
  have hg : ∀ i, (pre ++ (cds w ++ t))[pre.length + i]? = (cds w ++ t)[i]? := fun i => by
    rw [List.getElem?_append_right (by omega), Nat.add_sub_cancel_left]
  have hn := g.head hw
  cases h with
  | @word _ c cs e hc hcs hl =>
    have all : ∀ b ∈ cds w, lefi b = true := fun b hb => by
      rw [e] at hb
      rcases List.mem_cons.mp hb with rfl | hb
      · unfold lefi
        rw [hc]
        rfl
      · exact hcs b hb
    refine .word (c := c) ?_ hc ?_ hl
    · have := hg 0
      rw [Nat.add_zero] at this
      rw [this, e] <;> rfl
    · rw [hd]
      refine (take_app all fun c2 hc2 => ?_).symm
      rcases hn c2 hc2 with hb | ⟨w2, h2, hf⟩
      · exact blank_lefi hb
      · rcases hf with ⟨l, hl1, hl2⟩ | ⟨b, hb1, hb2⟩ | ⟨⟨b, hb1, hb2⟩, _⟩
        · have := all l (List.mem_of_getLast? hl1)
          rw [sgn_lefi hl2] at this
          cases this
        · rw [h2] at hb1
          cases hb1
          exact sgn_lefi hb2
        · have hb1 : (cds w).head? = some b := hb1
          rw [e] at hb1
          cases hb1
          unfold letter at hc
          unfold fig at hb2
          simp only [Bool.and_eq_true, decide_eq_true_eq] at hc hb2
          omega
  | @number _ c cs e hcs hl =>
    have all : ∀ b ∈ cds w, figure b = true := fun b hb => by
      rw [e] at hb
      exact hcs b hb
    refine .number (c := c) ?_ (hcs c List.mem_cons_self) ?_ hl
    · have := hg 0
      rw [Nat.add_zero] at this
      rw [this, e] <;> rfl
    · rw [hd]
      refine (take_app all fun c2 hc2 => ?_).symm
      rcases hn c2 hc2 with hb | ⟨w2, h2, hf⟩
      · exact lefi_figure (blank_lefi hb)
      · rcases hf with ⟨l, hl1, hl2⟩ | ⟨b, hb1, hb2⟩ | ⟨_, b, hb1, hb2⟩
        · have := all l (List.mem_of_getLast? hl1)
          rw [lefi_figure (sgn_lefi hl2)] at this
          cases this
        · rw [h2] at hb1
          cases hb1
          exact lefi_figure (sgn_lefi hb2)
        · rw [h2] at hb1
          cases hb1
          exact hb2
  | @sign c hc =>
    refine .sign ?_ hc
    have := hg 0
    rw [Nat.add_zero] at this
    rw [this] <;> rfl
  | dots =>
    have h0 := hg 0
    have h1 := hg 1
    rw [Nat.add_zero] at h0
    rw [dots_cds] at h0 h1 ⊢
    exact .dots h0 h1
theorem lex_go : ∀ {ws : List Str} {prev pre t : List Nat}, Gl prev (ws.map codes) t → (∀ w ∈ ws, Tk w) → Lx (pre ++ t) pre.length ws
  | [], prev, pre, t, h, _ => by
    cases h with
    | nil hg =>
      refine .done (by rw [List.length_append]; omega) ?_
      unfold rowE
      rw [List.drop_append_of_le_length (Nat.le_refl _), List.drop_length, List.nil_append, List.length_append]
      have e := take_app (S := blank) (a := t) (t := []) (fun b hb => by rcases hg.1 b hb with rfl | rfl <;> decide) (fun c hc => by cases hc)
      rw [List.append_nil] at e
      rw [e]
  | w :: ws, prev, pre, t, h, ht => by
    obtain ⟨c, cs, ec, hc⟩ := (ht w List.mem_cons_self).first
    have hne : ∀ w' ∈ ws.map codes, w' ≠ [] := fun w' hw' => by
      obtain ⟨w0, h0, rfl⟩ := List.mem_map.mp hw'
      obtain ⟨c0, cs0, e0, _⟩ := (ht w0 (List.mem_cons_of_mem _ h0)).first
      intro z
      rw [show codes w0 = c0 :: cs0 from e0] at z
      cases z
    rw [List.map_cons] at h
    cases h with
    | @cons _ _ g t' _ hg hr =>
      have er : rowE blank (pre ++ (g ++ codes w ++ t')) pre.length = (pre ++ g).length := by
        unfold rowE
        rw [List.drop_append_of_le_length (Nat.le_refl _), List.drop_length, List.nil_append, List.length_append, List.append_assoc]
        rw [take_app (fun b hb => by rcases hg.1 b hb with rfl | rfl <;> decide) (fun c2 hc2 => ?_)]
        rw [show codes w = c :: cs from ec] at hc2
        cases hc2
        exact hc
      have e1 : pre ++ (g ++ codes w ++ t') = (pre ++ g) ++ (cds w ++ t') := by
        rw [List.append_assoc, List.append_assoc] <;> rfl
      have e2 : pre ++ (g ++ codes w ++ t') = (pre ++ g ++ codes w) ++ t' := by
        rw [List.append_assoc, List.append_assoc, List.append_assoc]
      refine .tok (by rw [List.length_append]; omega) ?_ ?_ ?_
      · rw [er, e1, List.length_append (as := pre ++ g), List.length_append (as := cds w), ec, List.length_cons]
        omega
      · rw [er, e1]
        exact (ht w List.mem_cons_self).at_ hr hne
      · rw [er, e2]
        have ih := lex_go (pre := pre ++ g ++ codes w) hr fun w' hw' => ht w' (List.mem_cons_of_mem _ hw')
        have el : (pre ++ g ++ codes w).length = (pre ++ g).length + w.length := by
          rw [List.length_append, codes_len w]
        rw [← el]
        exact ih
theorem lex_all {ws : List Str} {x : Str} (h : Gl [59] (ws.map codes) (codes x)) (ht : ∀ w ∈ ws, Tk w) : Lx (cds x) 0 ws := lex_go (pre := []) h ht
/-! ### text W7 -/
/-! ## the words that tell a good deal -/
theorem kws_tk : ∀ x ∈ kws, Tk x := by
  have h : kws.all (fun x => match cds x with
    | c :: cs => letter c && cs.all lefi
    | [] => false) = true := by decide +kernel
  intro x hx
  have h2 := List.all_eq_true.mp h x hx
  cases e : cds x with
  | nil => rw [e] at h2; cases h2
  | cons c cs =>
    rw [e] at h2
    have h2 := Bool.and_eq_true_iff.mp h2
    exact .word e h2.1 (List.all_eq_true.mp h2.2) (.inr hx)
theorem Nm.tk {x : Str} (h : Nm x) : Tk x := by
  obtain ⟨c, cs, e, hc, hcs⟩ := h.first
  exact .word e hc hcs (.inl h.short)
theorem numL_head : ∀ n : Nat, 1 ≤ n → ∃ c cs, TL.numL n = c :: cs ∧ c ≠ 48 := by
  intro n
  induction n using Nat.strongRecOn with
  | _ n ih =>
    intro hn
    by_cases h : n < 10
    · exact ⟨48 + n, [], TL.numL_lt h, by omega⟩
    · obtain ⟨c, cs, e, hc⟩ := ih (n / 10) (by omega) (by omega)
      exact ⟨c, cs ++ [48 + n % 10], by rw [TL.numL_step (by omega), e] <;> rfl, hc⟩
theorem num_tk {n : Nat} (h : n ≤ 10 ^ 30) : Tk (num n) := by
  have e : cds (num n) = TL.numL n := TL.tl_num n
  have dig : ∀ b ∈ TL.numL n, figure b = true := fun b hb => by
    have := TL.numL_digits n b hb
    unfold figure
    simp only [Bool.and_eq_true, decide_eq_true_eq]
    omega
  by_cases h0 : n = 0
  · subst h0
    exact .number (c := 48) (cs := []) (by decide +kernel) (by decide +kernel) (.inl (by decide +kernel))
  · obtain ⟨c, cs, e2, hc⟩ := numL_head n (by omega)
    refine .number (c := c) (cs := cs) (e.trans e2) (fun b hb => dig b (by rw [e2]; exact hb)) (.inr ⟨hc, ?_⟩)
    have l31 : (TL.numL n).length ≤ 31 := TL.numL_len (by decide) (Nat.lt_of_le_of_lt h (by decide +kernel))
    rw [TL.len_tl]
    show (cds (num n)).length ≤ 31
    rw [e]
    exact l31
theorem tk_semi : Tk ";" := by
  rw [show (";" : Str) = ⟨#[59]⟩ by decide +kernel]
  exact .sign (by decide)
theorem tk_colon : Tk ":" := by
  rw [show (":" : Str) = ⟨#[58]⟩ by decide +kernel]
  exact .sign (by decide)
theorem tk_to : Tk ">" := by
  rw [show (">" : Str) = ⟨#[62]⟩ by decide +kernel]
  exact .sign (by decide)
theorem tk_ask : Tk "?" := by
  rw [show ("?" : Str) = ⟨#[63]⟩ by decide +kernel]
  exact .sign (by decide)
theorem tk_kw {x : Str} (h : decide (x ∈ kws) = true) : Tk x := kws_tk x (of_decide_eq_true h)
/-- all words are good tokens, and few -/
def Few (n : Nat) (ws : List Str) : Prop := (∀ w ∈ ws, Tk w) ∧ ws.length ≤ n
theorem Few.nil {n : Nat} : Few n [] := ⟨by simp, Nat.zero_le _⟩
theorem Few.cons {n : Nat} {w : Str} {ws : List Str} (h : Tk w) (t : Few n ws) : Few (n + 1) (w :: ws) :=
  ⟨fun x hx => by
    rcases List.mem_cons.mp hx with rfl | hx
    · exact h
    · exact t.1 x hx, Nat.succ_le_succ t.2⟩
theorem Few.app {n m : Nat} {a b : List Str} (h : Few n a) (t : Few m b) : Few (n + m) (a ++ b) :=
  ⟨fun x hx => by
    rcases List.mem_append.mp hx with hx | hx
    · exact h.1 x hx
    · exact t.1 x hx, by rw [List.length_append]; exact Nat.add_le_add h.2 t.2⟩
theorem Few.le {n m : Nat} {a : List Str} (h : Few n a) (l : n ≤ m) : Few m a := ⟨h.1, Nat.le_trans h.2 l⟩
theorem Few.semi {n : Nat} {a : List Str} (h : Few n a) : Few (n + 1) (a ++ sc1) := h.app (m := 1) (Few.cons tk_semi Few.nil)
section
variable {names : List Str}
theorem nm_tk (hn : ∀ x ∈ names, Nm x) {i : Nat} (hi : i < names.length) : Tk (nmAt names i) := (hn _ (List.mem_of_getElem? (nm_at hi))).tk
theorem nms_few (hn : ∀ x ∈ names, Nm x) {t : List Nat} {n : Nat} (ht : ∀ i ∈ t, i < names.length) (hl : t.length ≤ n) : Few n (t.map (nmAt names)) :=
  ⟨fun x hx => by
    obtain ⟨i, hi, rfl⟩ := List.mem_map.mp hx
    exact nm_tk hn (ht i hi), by rw [List.length_map]; exact hl⟩
theorem QuW.few {α : Type} {es : List (α × α)} (hn : ∀ x ∈ names, Nm x) (hl : es.length = names.length) (h60 : es.length ≤ 60) {q : Qu} {w : List Str} (h : QuW names q w) (ok : QuOk es q) : Few 61 w := by
  cases h with
  | along t =>
    cases ok with
    | along h1 h2 =>
      obtain ⟨_, u, v, p⟩ := h1
      exact (nms_few hn (fun i hi => by rw [← hl]; exact p.ltE i hi) h2).cons (tk_kw (by decide +kernel))
  | touch t u hu =>
    cases ok with
    | touch h1 h2 h3 =>
      have := up_len (a := 0) (fun i hi => ⟨Nat.zero_le _, h2 i hi⟩) h3
      exact (nms_few hn (fun i hi => by rw [← hl]; exact h2 i (hu.mem_iff.mp hi)) (by rw [hu.length_eq]; omega)).cons (tk_kw (by decide +kernel))
  | both a b =>
    cases ok with
    | both h1 h2 =>
      exact (Few.cons (tk_kw (by decide +kernel)) (Few.cons (nm_tk hn (by rw [← hl]; exact h1)) (Few.cons (nm_tk hn (by rw [← hl]; exact h2)) (Few.nil (n := 58)))))
theorem SaW.few {α : Type} {es : List (α × α)} (hn : ∀ x ∈ names, Nm x) (hl : es.length = names.length) (h60 : es.length ≤ 60) {s : Sa} {w : List Str} (h : SaW names s w) (ok : SaOk es s) : Few (63 + s.nots) w := by
  induction h with
  | least n h =>
    cases ok with
    | least h1 h2 => exact Few.cons (tk_kw (by decide +kernel)) (Few.cons (num_tk h1) (h.few hn hl h60 h2))
  | most n h =>
    cases ok with
    | most h1 h2 => exact Few.cons (tk_kw (by decide +kernel)) (Few.cons (num_tk h1) (h.few hn hl h60 h2))
  | follow a b =>
    cases ok with
    | follow h1 h2 => exact Few.cons (tk_kw (by decide +kernel)) (Few.cons (nm_tk hn (by rw [← hl]; exact h1)) (Few.cons (nm_tk hn (by rw [← hl]; exact h2)) (Few.nil (n := 60))))
  | no h ih =>
    cases ok with
    | no h1 => exact Few.cons (tk_kw (by decide +kernel)) (ih h1)
theorem AsW.few {α : Type} {es : List (α × α)} (hn : ∀ x ∈ names, Nm x) (hl : es.length = names.length) (h60 : es.length ≤ 60) {a : As} {w : List Str} (h : AsW names a w) (ok : AsOk es a) : Few 80 w := by
  cases h with
  | least h =>
    cases ok with
    | least h2 => exact (Few.cons (tk_kw (by decide +kernel)) (Few.cons (tk_kw (by decide +kernel)) (h.few hn hl h60 h2))).le (by decide)
  | most h =>
    cases ok with
    | most h2 => exact (Few.cons (tk_kw (by decide +kernel)) (Few.cons (tk_kw (by decide +kernel)) (h.few hn hl h60 h2))).le (by decide)
  | followers a =>
    cases ok with
    | followers h1 => exact Few.cons (tk_kw (by decide +kernel)) (Few.cons (tk_kw (by decide +kernel)) (Few.cons (nm_tk hn (by rw [← hl]; exact h1)) (Few.nil (n := 77))))
  | sure => exact Few.cons (tk_kw (by decide +kernel)) (Few.cons (tk_kw (by decide +kernel)) (Few.nil (n := 78)))
  | say h =>
    cases ok with
    | say h1 h2 => exact (Few.cons (tk_kw (by decide +kernel)) (h.few hn hl h60 h1)).le (by omega)
end
theorem HoW.few {lo : Nat} {hi : Option Nat} {w : List Str} (h : HoW lo hi w) (h1 : lo ≤ 10 ^ 30) (h2 : ∀ x, hi = some x → x ≤ 10 ^ 30) : Few 3 w := by
  cases h with
  | open0 => exact Few.cons tk_ask (Few.nil (n := 2))
  | open1 n => exact Few.cons (num_tk h1) (Few.cons .dots (Few.nil (n := 1)))
  | one n => exact Few.cons (num_tk h1) (Few.nil (n := 2))
  | two n m => exact Few.cons (num_tk h1) (Few.cons .dots (Few.cons (num_tk (h2 m rfl)) Few.nil))
theorem Rows.few {α : Type} {R : α → List Str → Prop} {n : Nat} : ∀ {as : List α} {ws : List (List Str)}, Rows R as ws → (∀ a ∈ as, ∀ w, R a w → Few n w) → (∀ r ∈ ws, Few (n + 1) r) ∧ ws.length = as.length
  | _, _, .nil, _ => ⟨by simp, rfl⟩
  | _, _, .cons h t, hf => by
    obtain ⟨i1, i2⟩ := t.few fun a ha => hf a (List.mem_cons_of_mem _ ha)
    refine ⟨fun r hr => ?_, by rw [List.length_cons, List.length_cons, i2]⟩
    rcases List.mem_cons.mp hr with rfl | hr
    · exact (hf _ List.mem_cons_self _ h).semi
    · exact i1 r hr
theorem flat_few {n : Nat} : ∀ {rows : List (List Str)}, (∀ r ∈ rows, Few n r) → Few (n * rows.length) rows.flatten
  | [], _ => Few.nil
  | r :: rows, h => by
    have ih := flat_few (rows := rows) fun z hz => h z (List.mem_cons_of_mem _ hz)
    rw [List.flatten_cons, List.length_cons, Nat.mul_succ, Nat.add_comm]
    exact (h r List.mem_cons_self).app ih
theorem Deal.Ok.rowsFew {d : Deal} (h : d.Ok) {rows : List (List Str)} (t : Told d rows) : (∀ r ∈ rows, Few 100 r) ∧ rows.length ≤ 170 := by
  obtain ⟨rw_, kw, aw, h1, h2, h3, e⟩ := t
  have b28 : (10 : Nat) ^ 28 ≤ 10 ^ 30 := by decide +kernel
  have hnm : ∀ x ∈ d.places, Nm x := fun x hx => h.nms x (List.mem_append_left _ hx)
  have hnn : ∀ x ∈ d.names, Nm x := fun x hx => h.nms x (List.mem_append_right _ hx)
  have el : d.ends.length = d.names.length := by rw [Deal.ends_len, Deal.names_len]
  obtain ⟨r1, l1⟩ := h1.few (n := 9) fun r hr w hw => by
    cases hw with
    | mk hh =>
      obtain ⟨g1, g2⟩ := h.hole r hr
      have fh := hh.few (Nat.le_trans g1 b28) fun x hx => Nat.le_trans (g2 x hx).2 b28
      exact Few.cons (tk_kw (by decide +kernel)) (Few.cons (hnn _ (List.mem_map_of_mem hr)).tk (Few.cons tk_colon (Few.cons (hnm _ (h.foot r hr).1).tk (Few.cons tk_to (Few.cons (hnm _ (h.head r hr).1).tk fh)))))
  obtain ⟨r2, l2⟩ := h2.few (n := 63) fun k hk w hw => by
    obtain ⟨g1, g2, g3, g4, g5⟩ := h.known k hk
    subst hw
    exact Few.cons (tk_kw (by decide +kernel)) (Few.cons (num_tk g2) (Few.cons tk_colon (nms_few hnn (fun i hi => by rw [← el]; exact g5.ltE i hi) g3)))
  obtain ⟨r3, l3⟩ := h3.few (n := 80) fun a ha w hw => hw.few hnn el h.endsN (h.asks a ha)
  have hp : Few 24 d.places := ⟨fun x hx => (hnm x hx).tk, h.few⟩
  constructor
  · intro r hr
    rw [e] at hr
    rcases List.mem_cons.mp hr with rfl | hr
    · exact (Few.cons (tk_kw (by decide +kernel)) hp.semi).le (by decide)
    rcases List.mem_cons.mp hr with rfl | hr
    · exact (Few.cons (tk_kw (by decide +kernel)) (Few.cons (hnm _ h.inn).tk (Few.cons tk_semi (Few.nil (n := 0))))).le (by decide)
    rcases List.mem_cons.mp hr with rfl | hr
    · exact (Few.cons (tk_kw (by decide +kernel)) (Few.cons (hnm _ h.out).tk (Few.cons tk_semi (Few.nil (n := 0))))).le (by decide)
    rcases List.mem_append.mp hr with hr | hr
    · rcases List.mem_append.mp hr with hr | hr
      · exact (r1 r hr).le (by decide)
      · exact (r2 r hr).le (by decide)
    · exact (r3 r hr).le (by decide)
  · rw [e, List.length_cons, List.length_cons, List.length_cons, List.length_append, List.length_append, l1, l2, l3]
    have := h.roadsN
    have := h.knownN
    have := h.asksN
    omega
/-! ### text W8 -/
/-! ## a book is shown in a short text -/
structure Shw (d : PyData) (k n : Nat) : Prop where
  sh : d.showable = true
  nd : d.hasDict = false
  dp : d.depth ≤ k
  ln : d.shown.length ≤ n
structure ShwL (ds : List PyData) (k n : Nat) : Prop where
  sh : PyData.showableAll ds = true
  nd : PyData.hasDictAll ds = false
  dp : PyData.depthAll ds ≤ k
  ln : (Str.join ", " (PyData.shownAll ds)).length ≤ n
theorem Shw.le {d : PyData} {k n k' n' : Nat} (h : Shw d k n) (hk : k ≤ k') (hn : n ≤ n') : Shw d k' n' := ⟨h.sh, h.nd, Nat.le_trans h.dp hk, Nat.le_trans h.ln hn⟩
theorem ShwL.le {d : List PyData} {k n k' n' : Nat} (h : ShwL d k n) (hk : k ≤ k') (hn : n ≤ n') : ShwL d k' n' := ⟨h.sh, h.nd, Nat.le_trans h.dp hk, Nat.le_trans h.ln hn⟩
theorem ShwL.nil {k n : Nat} : ShwL [] k n := ⟨by simp [PyData.showableAll], by simp [PyData.hasDictAll], by simp [PyData.depthAll], Nat.zero_le _⟩
theorem join_cons (x : Str) : ∀ ts : List Str, (Str.join ", " (x :: ts)).length ≤ x.length + 2 + (Str.join ", " ts).length
  | [] => by
    show x.length ≤ _
    omega
  | y :: r => by
    show (x ++ ", " ++ Str.join ", " (y :: r)).length ≤ _
    rw [strLen_append, strLen_append]
    have : ((", " : String) : Str).length = 2 := rfl
    omega
theorem ShwL.cons {d : PyData} {ds : List PyData} {k a b : Nat} (h : Shw d k a) (t : ShwL ds k b) : ShwL (d :: ds) k (a + 2 + b) := by
  refine ⟨?_, ?_, ?_, ?_⟩
  · rw [PyData.showableAll, h.sh, t.sh] <;> rfl
  · rw [PyData.hasDictAll, h.nd, t.nd] <;> rfl
  · rw [PyData.depthAll]
    exact Nat.max_le.mpr ⟨h.dp, t.dp⟩
  · rw [PyData.shownAll]
    have := join_cons d.shown (PyData.shownAll ds)
    have := h.ln
    have := t.ln
    omega
theorem ShwL.map {α : Type} {f : α → PyData} {k a : Nat} : ∀ {l : List α} {m : Nat}, (∀ e ∈ l, Shw (f e) k a) → l.length ≤ m → ShwL (l.map f) k ((a + 2) * m)
  | [], m, _, _ => ShwL.nil
  | e :: l, m, h, hm => by
    obtain ⟨m', rfl⟩ : ∃ m', m = m' + 1 := ⟨m - 1, by rw [List.length_cons] at hm; omega⟩
    have ih := ShwL.map (f := f) (k := k) (a := a) (l := l) (m := m') (fun z hz => h z (List.mem_cons_of_mem _ hz)) (by rw [List.length_cons] at hm; omega)
    rw [List.map_cons]
    exact (ShwL.cons (h e List.mem_cons_self) ih).le (Nat.le_refl _) (by rw [Nat.mul_succ]; omega)
theorem Shw.tup {ds : List PyData} {k n : Nat} (h : ShwL ds k n) : Shw (.tuple ds) (k + 1) (n + 3) := by
  refine ⟨?_, ?_, ?_, ?_⟩
  · rw [PyData.showable]
    exact h.sh
  · rw [PyData.hasDict]
    exact h.nd
  · rw [PyData.depth]
    have := h.dp
    omega
  · rw [PyData.shown]
    unfold tupleText
    rw [strLen_append, strLen_append]
    have h1 : ((("(" : String) : Str)).length = 1 := rfl
    have h2 : ((if (PyData.shownAll ds).length == 1 then ",)" else ")" : String) : Str).length ≤ 2 := by
      split
      · exact (by decide : (2 : Nat) ≤ 2)
      · exact (by decide : (1 : Nat) ≤ 2)
    have := h.ln
    omega
theorem Shw.non {k : Nat} : Shw .none k 4 := ⟨rfl, rfl, Nat.zero_le _, by decide +kernel⟩
theorem Shw.num {n k : Nat} (h : n ≤ 10 ^ 30) : Shw (iN n) k 31 := by
  refine ⟨?_, rfl, Nat.zero_le _, ?_⟩
  · unfold iN
    rw [PyData.showable]
    exact decide_eq_true (num_lt h)
  · show (Str.ofString (toString ((n : Nat) : Int))).length ≤ 31
    rw [TL.len_tl, TL.tl_num]
    exact TL.numL_len (by decide) (Nat.lt_of_le_of_lt h (by decide +kernel))
theorem Shw.nm {x : Str} {k : Nat} (h : Nm x) : Shw (.str x) k 82 := by
  refine ⟨rfl, rfl, Nat.zero_le _, ?_⟩
  show (reprText x).length ≤ 82
  have hs := h.short
  have := PySem.StrLaws.reprText_len x (fun c hc => by
    obtain ⟨c0, cs, e, h0, hcs⟩ := h.first
    rw [e] at hc
    have lt : (letter c || figure c) = true := by
      rcases List.mem_cons.mp hc with rfl | hc
      · rw [h0]; rfl
      · exact hcs c hc
    unfold letter figure at lt
    simp only [Bool.or_eq_true, Bool.and_eq_true, decide_eq_true_eq] at lt
    rw [show (16 : Nat) ^ 8 = 4294967296 by decide]
    omega)
  omega
theorem Shw.wd {x : Str} {k : Nat} (h : decide ((reprText x).length ≤ 82) = true) : Shw (.str x) k 82 := ⟨rfl, rfl, Nat.zero_le _, of_decide_eq_true h⟩
theorem sm30 {n : Nat} (h : n ≤ 2000) : n ≤ 10 ^ 30 := Nat.le_trans h (by decide +kernel)
theorem shw_tup1 {t : List Nat} (h : ∀ i ∈ t, i < 60) (hl : t.length ≤ 60) : Shw (tup1 t) 1 2000 :=
  (Shw.tup (ShwL.map (f := iN) (k := 0) (a := 31) (m := 60) (fun i hi => Shw.num (sm30 (by have := h i hi; omega))) hl)).le (Nat.le_refl _) (by decide)
section
variable {α : Type} {es : List (α × α)} (h60 : es.length ≤ 60)
include h60
theorem QuOk.shw (hl : ∀ {t : List Nat}, (∀ i ∈ t, i < es.length) → t.Pairwise (· < ·) → t.length ≤ 60) {q : Qu} (h : QuOk es q) : Shw q.d 2 2100 := by
  cases h with
  | @along t h1 h2 =>
    obtain ⟨_, u, v, p⟩ := h1
    exact (Shw.tup (.cons (Shw.wd (by decide +kernel)) (.cons (shw_tup1 (fun i hi => by have := p.ltE i hi; omega) h2) (.nil (n := 0))))).le (Nat.le_refl _) (by decide)
  | touch h1 h2 h3 => exact (Shw.tup (.cons (Shw.wd (by decide +kernel)) (.cons (shw_tup1 (fun i hi => by have := h2 i hi; omega) (hl h2 h3)) (.nil (n := 0))))).le (Nat.le_refl _) (by decide)
  | both h1 h2 => exact (Shw.tup (.cons (Shw.wd (k := 0) (by decide +kernel)) (.cons (Shw.num (sm30 (by omega))) (.cons (Shw.num (sm30 (by omega))) (.nil (n := 0)))))).le (by decide) (by decide)
theorem SaOk.shw (hl : ∀ {t : List Nat}, (∀ i ∈ t, i < es.length) → t.Pairwise (· < ·) → t.length ≤ 60) {s : Sa} (h : SaOk es s) : Shw s.d (3 + s.nots) (2400 + 100 * s.nots) := by
  induction h with
  | least h1 h2 => exact (Shw.tup (.cons (Shw.wd (by decide +kernel)) (.cons (Shw.num h1) (.cons (h2.shw h60 hl) (.nil (n := 0)))))).le (Nat.le_refl _) (by show _ ≤ 2400 + 100 * 0; decide)
  | most h1 h2 => exact (Shw.tup (.cons (Shw.wd (by decide +kernel)) (.cons (Shw.num h1) (.cons (h2.shw h60 hl) (.nil (n := 0)))))).le (Nat.le_refl _) (by show _ ≤ 2400 + 100 * 0; decide)
  | follow h1 h2 => exact (Shw.tup (.cons (Shw.wd (k := 0) (by decide +kernel)) (.cons (Shw.num (sm30 (by omega))) (.cons (Shw.num (sm30 (by omega))) (.nil (n := 0)))))).le (by show _ ≤ 3 + 0; decide) (by show _ ≤ 2400 + 100 * 0; decide)
  | @no s _ ih =>
    refine (Shw.tup (.cons (Shw.wd (by decide +kernel)) (.cons ih (.nil (n := 0))))).le ?_ ?_
    · show 3 + s.nots + 1 ≤ 3 + (s.nots + 1)
      omega
    · show 82 + 2 + (2400 + 100 * s.nots + 2 + 0) + 3 ≤ 2400 + 100 * (s.nots + 1)
      omega
theorem AsOk.shw (hl : ∀ {t : List Nat}, (∀ i ∈ t, i < es.length) → t.Pairwise (· < ·) → t.length ≤ 60) {a : As} (h : AsOk es a) : Shw a.d 12 4000 := by
  cases h with
  | least h => exact (Shw.tup (.cons (Shw.wd (by decide +kernel)) (.cons (h.shw h60 hl) (.nil (n := 0))))).le (by decide) (by decide)
  | most h => exact (Shw.tup (.cons (Shw.wd (by decide +kernel)) (.cons (h.shw h60 hl) (.nil (n := 0))))).le (by decide) (by decide)
  | followers h => exact (Shw.tup (.cons (Shw.wd (k := 0) (by decide +kernel)) (.cons (Shw.num (sm30 (by omega))) (.nil (n := 0))))).le (by decide) (by decide)
  | sure => exact (Shw.tup (.cons (Shw.wd (k := 0) (by decide +kernel)) (.nil (n := 0)))).le (by decide) (by decide)
  | say h h8 => exact (Shw.tup (.cons (Shw.wd (by decide +kernel)) (.cons (h.shw h60 hl) (.nil (n := 0))))).le (by omega) (by omega)
end
theorem Deal.Ok.shw {d : Deal} (h : d.Ok) : Shw d.book 20 900000 := by
  have b28 : (10 : Nat) ^ 28 ≤ 10 ^ 30 := by decide +kernel
  have hr := h.roadsN
  have ho : d.order.length ≤ 24 := by rw [h.lenO]; exact h.few
  have hnm : ∀ x ∈ d.order, Nm x := fun x hx => by
    obtain ⟨l, e, hp⟩ := h.order
    exact h.nms x (List.mem_append_left _ (hp.mem_iff.mp hx))
  have hnn : ∀ x ∈ d.names, Nm x := fun x hx => h.nms x (List.mem_append_right _ hx)
  have hix : ∀ x ∈ d.places, d.order.idxOf x ≤ 24 := fun x hx => by
    have := List.idxOf_lt_length_of_mem (h.memO hx)
    omega
  have a1 : Shw (.tuple (d.order.map .str)) 1 2100 := (Shw.tup (ShwL.map (k := 0) (a := 82) (m := 24) (fun x hx => Shw.nm (hnm x hx)) ho)).le (Nat.le_refl _) (by decide)
  have a2 : Shw (.tuple (d.names.map .str)) 1 5100 := (Shw.tup (ShwL.map (k := 0) (a := 82) (m := 60) (fun x hx => Shw.nm (hnn x hx)) h.namesN)).le (Nat.le_refl _) (by decide)
  have a3 : Shw d.netD 3 5000 := by
    have e : Shw (.tuple (endsD d.order d.ends)) 2 4800 := (Shw.tup (ShwL.map (k := 1) (a := 73) (m := 60) (fun e he => by
      obtain ⟨r, hr, rfl⟩ := List.mem_map.mp he
      have h1 := hix _ (h.foot r hr).1
      have h2 := hix _ (h.head r hr).1
      exact (Shw.tup (.cons (Shw.num (k := 0) (sm30 (by show d.order.idxOf r.ft ≤ 2000; omega))) (.cons (Shw.num (sm30 (by show d.order.idxOf r.hd ≤ 2000; omega))) (.nil (n := 0))))).le (Nat.le_refl _) (by decide)) h.endsN)).le (Nat.le_refl _) (by decide)
    exact (Shw.tup (.cons (Shw.num (sm30 (by omega))) (.cons e (.nil (n := 0))))).le (Nat.le_refl _) (by decide)
  have a4 : Shw (.tuple (d.roads.map fun r => .tuple [iN r.lo, oN r.hi])) 2 4800 := (Shw.tup (ShwL.map (k := 1) (a := 73) (m := 60) (fun r hr => by
    obtain ⟨h1, h2⟩ := h.hole r hr
    have hh : Shw (oN r.hi) 0 31 := by
      cases e : r.hi with
      | none => exact Shw.non.le (Nat.le_refl _) (by decide)
      | some x => exact Shw.num (Nat.le_trans (h2 x e).2 b28)
    exact (Shw.tup (.cons (Shw.num (k := 0) (Nat.le_trans h1 b28)) (.cons hh (.nil (n := 0))))).le (Nat.le_refl _) (by decide)) hr)).le (Nat.le_refl _) (by decide)
  have a5 : Shw (.tuple (d.known.map fun k => .tuple [tup1 k.2, iN k.1])) 3 200000 := (Shw.tup (ShwL.map (k := 2) (a := 2100) (m := 60) (fun k hk => by
    obtain ⟨h1, h2, h3, h4, h5⟩ := h.known k hk
    exact (Shw.tup (.cons (shw_tup1 (fun i hi => by have := (h.knLt k hk).2 i hi; omega) h3) (.cons (Shw.num h2) (.nil (n := 0))))).le (Nat.le_refl _) (by decide)) h.knownN)).le (Nat.le_refl _) (by decide)
  have a6 : Shw (.tuple (d.asks.map As.d)) 13 200000 := (Shw.tup (ShwL.map (k := 12) (a := 4000) (m := 40) (fun a ha => (h.asks a ha).shw h.endsN fun {t} h1 h2 => by
    have := up_len (a := 0) (fun i hi => ⟨Nat.zero_le _, h1 i hi⟩) h2
    have := h.endsN
    omega) h.asksN)).le (Nat.le_refl _) (by decide)
  exact (Shw.tup (.cons (a1.le (k' := 19) (by decide) (Nat.le_refl _)) (.cons (a2.le (by decide) (Nat.le_refl _)) (.cons (a3.le (by decide) (Nat.le_refl _)) (.cons (a4.le (by decide) (Nat.le_refl _)) (.cons (a5.le (by decide) (Nat.le_refl _)) (.cons (a6.le (by decide) (Nat.le_refl _)) (.nil (n := 0))))))))).le (Nat.le_refl _) (by decide)
/-! ### text Z0 -/
def spLaw (K : PySem.W.Frag) : Sp := fun vs H Q _ => ∃ (a : Addr) (ns : List Int), vs = [.ref a] ∧ SqL K H a (ns.map V.int) ∧ ∀ H', Q (.bl true) H'
theorem tk_code {w : Str} (h : Tk w) : codes w ≠ [] ∧ w.length ≤ 40 := by
  obtain ⟨c, cs, e, _⟩ := h.first
  refine ⟨fun z => ?_, h.short⟩
  rw [show codes w = cds w from rfl, e] at z
  cases z
theorem DealAt.up {D D' : Hp} {p : Addr} {d : Deal} (h : DealAt D p d) (s : Same D D') : DealAt D' p d := by
  obtain ⟨vp, vr, vk, va, e, dv⟩ := h
  exact ⟨vp, vr, vk, va, s _ _ e, dv.pl.up s, dv.ro.up s, dv.kn.up s, dv.as.up s⟩
theorem ite_same {p A B X : Prop} [Decidable p] (e1 : X → A) (e2 : X → B) (x : X) : if p then A else B := by
  by_cases h : p
  · rw [if_pos h]
    exact e1 x
  · rw [if_neg h]
    exact e2 x
theorem take_few {rows : List (List Str)} (h : ∀ r ∈ rows, Few 100 r) (hl : rows.length ≤ 170) (m : Nat) : Few 17000 (rows.take m).flatten := by
  refine (flat_few (n := 100) (rows := rows.take m) fun r hr => h r (List.mem_of_mem_take hr)).le ?_
  rw [List.length_take]
  omega
section
variable {P : Program} {w : World} {K : PySem.W.Frag} {mg : Str → Option Value} {base : Heap}
theorem sc_law : FnScope ["_law_script", "_law_stock_here", "_law_turn", "_law_deal_here", "_law_again", "_law_due", "_law_words", "_law_row", "_law_text", "_law_told"] ["_law_script"] (defScope s_law) := ⟨rfl, rfl, rfl, by decide +kernel, rfl, by decide +kernel, by decide +kernel⟩
theorem b_law (T : Txt K mg) (f : Addr) (cdv : Value) (s : Shared) (H : Hp) (vs : List V) (Q : VK) (E : XK) (hr : Room 14 (callerA.deeper (envOfC "law" (defScope s_law) s.heap.objs.size f cdv))) (h : spLaw K vs H Q E) :
    ∃ t, PSs (cxOf CX0 P w K mg base ["_law_script", "_law_stock_here", "_law_turn", "_law_deal_here", "_law_again", "_law_due", "_law_words", "_law_row", "_law_text", "_law_told"] "law" (defScope s_law) f cdv callerA [] s H E).nox (defBody s_law) t ∧ t { nx := fun _ H' => Q .non H', rt := Q } (start ["_law_script", "_law_stock_here", "_law_turn", "_law_deal_here", "_law_again", "_law_due", "_law_words", "_law_row", "_law_text", "_law_told"] vs) H := by
  have h_law_stock : C8.Cal P w K mg base 1 "_law_stock" (spStock K) [] := c_law_stock T
  have h_law_draw : C8.Cal P w K mg base 1 "_law_draw" spDraw [] := c_law_draw T
  have h_law_deal : C8.Cal P w K mg base 7 "_law_deal" spDeal [] := c_law_deal T
  have h_law_made : C8.Cal P w K mg base 2 "_law_made" spMade [] := c_law_made T
  have h_law_lines : C8.Cal P w K mg base 13 "_law_lines" spLines [] := c_law_lines T
  have h_law_joined : C8.Cal P w K mg base 3 "_law_joined" spJoined [] := c_law_joined T
  have h_law_mixed_net : C8.Cal P w K mg base 13 "_law_mixed_net" spMixed [] := c_law_mixed_net T
  have h_read_book : C8.Cal P w K mg base 14 "read_book" (spBook K) [] := c_read_book T
  have k_read_book : CalK P w K mg base 14 "read_book" "value" (spBook K) := k_read_book T
  have hg : (callerA.deeper (envOfC "law" (defScope s_law) s.heap.objs.size f cdv)).guards = some [] := rfl
  obtain ⟨a, ns, rfl, hns, k⟩ := h
  refine ⟨_, (pss_cons (ps_set (i := 1) sc_law.nd rfl (Or.inl rfl) (C8.pe_c h_law_stock hr (by decide) rfl (pa_cons (pv 0) pa_nil))) (pss_cons (ps_for PassesOwn.never rfl (pi_range1 (by rfl) T.b_range (pa_cons pe_int pa_nil)) (pg_name (i := 2) sc_law.nd rfl (.inl rfl)) (pss_cons (ps_set (i := 3) sc_law.nd rfl (Or.inl rfl) (C8.pe_c h_law_deal hr (by decide) rfl (pa_cons (pv 1) (pa_cons (pe_op op_add pe_int (C8.pe_c h_law_draw hr (by decide) rfl (pa_cons (pv 1) (pa_cons pe_int pa_nil)))) (pa_cons (C8.pe_c h_law_draw hr (by decide) rfl (pa_cons (pv 1) (pa_cons pe_int pa_nil))) (pa_cons (C8.pe_c h_law_draw hr (by decide) rfl (pa_cons (pv 1) (pa_cons pe_int pa_nil))) pa_nil)))))) (pss_one (ps_for PassesOwn.never rfl (pi_range1 (by rfl) T.b_range (pa_cons pe_int pa_nil)) (pg_name (i := 4) sc_law.nd rfl (.inl rfl)) (pss_cons (ps_set (i := 5) sc_law.nd rfl (Or.inl rfl) (pe_callB (call_repr hg hr) (by rfl) T.b_repr boot_repr (pa_cons (C8.pe_c h_law_made hr (by decide) rfl (pa_cons (pv 3) pa_nil)) pa_nil))) (pss_cons (ps_set (i := 6) sc_law.nd rfl (Or.inl rfl) (pe_lst pa_nil)) (pss_cons (ps_for PassesOwn.never rfl (pi_list (C8.pe_c h_law_lines hr (by decide) rfl (pa_cons (pv 1) (pa_cons (pv 3) pa_nil)))) (pg_name (i := 7) sc_law.nd rfl (.inl rfl)) (pss_one (ps_set (i := 6) sc_law.nd rfl (Or.inl rfl) (pe_op op_cat (pv 6) (pv 7))))) (pss_cons (ps_set (i := 8) sc_law.nd rfl (Or.inl rfl) (C8.pe_c h_law_joined hr (by decide) rfl (pa_cons (pv 1) (pa_cons (pv 6) pa_nil)))) (pss_cons (ps_set (i := 9) sc_law.nd rfl (Or.inl rfl) (pe_ifExp (pt_cmpR op_eq (pv 2) pe_int (nomark _)) (pe_k1 k_read_book hr (by decide) rfl (pv 8)) (C8.pe_c h_read_book hr (by decide) rfl (pa_cons (pv 8) pa_nil)))) (pss_cons (ps_if (PW.pt (pw_or (pt_cmpR op_ne (pe_callB (call_repr hg hr) (by rfl) T.b_repr boot_repr (pa_cons (pv 9) pa_nil)) (pv 5) (nomark _)) (pw_or1 (PW.pt (pw_and (pt_cmpR op_eq (pv 4) pe_int (nomark _)) (pw_and1 (pt_cmpR op_ne (pe_callB (call_repr hg hr) (by rfl) T.b_repr boot_repr (pa_cons (C8.pe_c h_read_book hr (by decide) rfl (pa_cons (C8.pe_c h_law_joined hr (by decide) rfl (pa_cons (pv 1) (pa_cons (pv 6) pa_nil))) pa_nil)) pa_nil)) (pv 5) (nomark _)))))))) (pss_one (ps_ret pe_bl)) pss_nil) (pss_one (ps_set (i := 3) sc_law.nd rfl (Or.inl rfl) (C8.pe_c h_law_mixed_net hr (by decide) rfl (pa_cons (pv 1) (pa_cons (pv 3) pa_nil))))))))))))))) (pss_one (ps_ret pe_bl)))), ?_⟩
  show tSeq _ _ _ [some (.ref a), none, none, none, none, none, none, none, none, none] H
  have gI : ∀ {S : Addr}, Ground (fun D fr H => Sk D S fr H) := ground_Sk
  walk_at "st"
  refine ⟨fun _ => none, [], a, ns, rfl, Hs.nil_of (fun _ _ e => by cases e), hns, fun D1 H1 S s1 h1 => ?_⟩
  walk_at "st"
  walk_at "st"
  refine ⟨by decide, by decide, ?_⟩
  refine loop_f walk_range (fun i σ H' => ∃ (D' : Hp) (x2 x3 x4 x5 x6 x7 x8 x9 : Option V), σ = [some (.ref a), some (.ref S), x2, x3, x4, x5, x6, x7, x8, x9] ∧ Sk D' S [] H') ⟨D1, _, _, _, _, _, _, _, _, rfl, h1⟩ (fun _ _ _ _ _ => trivial) ?_ ?_
  · rintro i x σ H2 H3 hi ⟨D2, x2, x3, x4, x5, x6, x7, x8, x9, rfl, h2⟩ ⟨rfl, rfl⟩ N hN
    walk_at "st"
    walk_at "st"
    refine ⟨D2, S, _, 6, rfl, h2, by decide, by decide, fun H4 r4 h4 u4 v4 => ⟨_, rfl, D2, S, _, 5, rfl, h4, by decide, by decide, fun H5 r5 h5 u5 v5 => ⟨D2, S, _, 6, rfl, h5, by decide, by decide, fun H6 r6 h6 u6 v6 => ?_⟩⟩⟩
    obtain ⟨n4, rfl⟩ := Int.eq_ofNat_of_zero_le u4
    obtain ⟨n5, rfl⟩ := Int.eq_ofNat_of_zero_le u5
    obtain ⟨n6, rfl⟩ := Int.eq_ofNat_of_zero_le u6
    refine ⟨D2, S, _, 2 + n4, n5, n6, rfl, h6, by omega, by omega, by omega, by omega, fun D7 H7 p7 d7 ns7 es7 s7 h7 raw dat => ?_⟩
    refine ⟨by decide, by decide, ?_⟩
    refine loop_f walk_range (fun j σ H' => ∃ (D' : Hp) (p : Addr) (d : Deal) (x4 x5 x6 x7 x8 x9 : Option V), σ = [some (.ref a), some (.ref S), some (.int (0 + (i : Int))), some (.ref p), x4, x5, x6, x7, x8, x9] ∧ Sk D' S [] H' ∧ DealAt D' p d ∧ d.Ok) ⟨D7, p7, d7, _, _, _, _, _, _, rfl, h7, dat, raw.ok⟩ (fun _ _ _ _ _ => trivial) ?_ ?_
    · rintro j x σ H8 H9 hj ⟨D8, p, d, x4, x5, x6, x7, x8, x9, rfl, h8, dat, ok⟩ ⟨rfl, rfl⟩ N2 hN2
      walk_at "st"
      walk_at "st"
      refine ⟨_, D8, _, p, d, gI, rfl, h8, dat, ok.madeOk, fun D10 H10 v10 s10 h10 hv10 => ?_⟩
      have hb10 : At D10 v10 (.tuple _) := hv10
      obtain ⟨a10, xs10, ev10, _, _⟩ := hb10.tup_is
      subst ev10
      have shw := ok.shw
      have sz1 : d.book.depth ≤ 60 := Nat.le_trans shw.dp (by decide)
      have sz2 : d.book.shown.length ≤ sizeLine := Nat.le_trans shw.ln (by rw [sizeLine_eq]; decide)
      refine ⟨_, rfl, d.book, hv10.dp h10.same, shw.sh, shw.nd, sz1, sz2, ?_⟩
      walk_at "st"
      intro p11 n11
      obtain ⟨h11, s11⟩ := h10.new n11 (.lst [])
      walk_at "st"
      walk_at "st"
      have t11 := same_tr s10 s11
      refine ⟨_, S, _, p, d, rfl, h11, dat.up t11, ok.linesOk, fun D12 H12 v12 rows s12 h12 told0 hv12 => ?_⟩
      have told := told0.told (fun x hx => (ok.nms x (List.mem_append_right _ hx)).named) (fun b hb => by rw [Deal.names_len]; exact ok.askLt b hb)
      obtain ⟨few1, few2⟩ := ok.rowsFew told
      obtain ⟨pl, lx, rfl, hpl, hlx⟩ := hv12.lst_is
      refine ⟨_, rfl, ⟨_, SqL.of (h12.same _ _ hpl)⟩, ?_⟩
      have pw11 := s12 _ _ (upd_same (H := D10) (a := p11) (o := HO.lst []))
      refine loop_f (walk_list (xs := lx)) (fun m σ H' => ∃ (D' : Hp) (pw : Addr) (x7 : Option V), σ = [some (.ref a), some (.ref S), some (.int (0 + (i : Int))), some (.ref p), some (.int (0 + (j : Int))), some (.str d.book.shown), some (.ref pw), x7, x8, x9] ∧ Same D12 D' ∧ Sk D' S [] H' ∧ D' pw = some (.lst (((rows.take m).flatten).map V.str)))
        ⟨D12, p11, _, rfl, same_rfl, h12, pw11⟩ (fun m σ H' _ hh => by
          obtain ⟨D', pw, x7, _, sD, hD, _⟩ := hh
          exact SqL.of (hD.same _ _ (sD _ _ hpl))) ?_ ?_
      · rintro m y σ H13 H14 hm ⟨D13, pw, x7, rfl, s13, h13, hpw⟩ ⟨rfl, hy⟩ N3 hN3
        obtain ⟨r, hrm, hr⟩ := (hlx.up s13).getE hy
        obtain ⟨pr, rx, rfl, hpr, hrx⟩ := hr.lst_is
        obtain rfl := AtL.strs.mp hrx
        have ef : (rows.take m).flatten ++ r = (rows.take (m + 1)).flatten := by rw [List.take_add_one, hrm, List.flatten_append] <;> simp
        have f1 := take_few few1 few2 (m + 1)
        walk_at "rd"
        refine ⟨_, h13.same _ _ hpw, _, h13.same _ _ hpr, sz (by rw [← List.length_append, ← List.map_append, ef, List.length_map]; have := f1.2; omega), fun p15 n15 => ?_⟩
        obtain ⟨h15, s15⟩ := h13.new n15 (.lst ((rows.take m).flatten.map V.str ++ r.map V.str))
        refine hN3 _ _ ⟨_, p15, _, rfl, same_tr s13 s15, h15, ?_⟩
        rw [← ef, List.map_append]
        exact upd_same
      rintro σ H13 ⟨D13, pw, x7, rfl, s13, h13, hpw⟩
      rw [show rows.take lx.length = rows by rw [hlx.len, List.length_map, List.take_length]] at hpw
      have fall := flat_few few1
      have f17 : rows.flatten.length ≤ 90000 := by
        have := fall.2
        omega
      walk_at "st"
      walk_at "st"
      refine ⟨D13, S, _, pw, rows.flatten, rfl, h13, .inl hpw, f17, fun w0 hw0 => tk_code (fall.1 w0 hw0), fun D14 H14 z14 s14 h14 hgl hzl => ?_⟩
      have lx14 := lex_all hgl fall.1
      walk_at "st"
      walk_at "st"
      refine ite_same (X := spBook K [.str z14] H14 _ C8.E0) (fun z => ?_) (fun z => z) ?_
      · rw [u_callK1]
        walk_at "rd"
        exact z
      refine ⟨_, D14, _, z14, d, rows, gI, rfl, h14, ok, told, lx14, hzl, fun D15 H15 v15 s15 h15 hv15 => ?_⟩
      have dp15 : Dp K H15 v15 (.tuple _) := hv15 _ h15.same
      obtain ⟨a15, ea15⟩ : ∃ a15, v15 = .ref a15 := by
        cases dp15 with
        | tup _ _ => exact ⟨_, rfl⟩
      subst ea15
      walk_at "st"
      walk_at "st"
      refine ⟨d.book, dp15, shw.sh, shw.nd, sz1, sz2, ?_⟩
      rw [if_pos rfl]
      have t15 := same_tr t11 (same_tr s12 (same_tr s13 (same_tr s14 s15)))
      have fin : ∀ (D' H' : Hp), Same D8 D' → Sk D' S [] H' → spMixed [.ref S, .ref p] H' (fun x H1 => N2 [some (.ref a), some (.ref S), some (.int (0 + (i : Int))), some x, some (.int (0 + (j : Int))), some (.str d.book.shown), some (.ref pw), x7, some (.str z14), some (.ref a15)] H1) C8.E0 := by
        intro D' H' sD hD
        exact ⟨D', S, [], p, d, rfl, hD, dat.up sD, Nat.le_trans ok.roadsN (by decide), Nat.le_trans ok.knownN (by decide), Nat.le_trans ok.asksN (by decide), ok.knLt, ok.askLt, fun D16 H16 q o roads known asks s16 h16 ho hl hr2 hk hal ha dat16 => hN2 _ _ ⟨D16, q, _, _, _, _, _, _, _, rfl, h16, dat16, ok.mix ho hl hr2 hk hal ha⟩⟩
      refine ite2 (fun _ => ?_) (fun _ => fin D15 H15 t15 h15)
      refine ⟨D15, S, _, pw, rows.flatten, rfl, h15, .inl (s15 _ _ (s14 _ _ hpw)), f17, fun w0 hw0 => tk_code (fall.1 w0 hw0), fun D16 H16 z16 s16 h16 hgl2 hzl2 => ?_⟩
      refine ⟨_, D16, _, z16, d, rows, gI, rfl, h16, ok, told, lex_all hgl2 fall.1, hzl2, fun D17 H17 v17 s17 h17 hv17 => ?_⟩
      have dp17 : Dp K H17 v17 (.tuple _) := hv17 _ h17.same
      obtain ⟨a17, ea17⟩ : ∃ a17, v17 = .ref a17 := by
        cases dp17 with
        | tup _ _ => exact ⟨_, rfl⟩
      subst ea17
      refine ⟨_, rfl, d.book, dp17, shw.sh, shw.nd, sz1, sz2, ?_⟩
      rw [if_pos rfl]
      exact fin D17 H17 (same_tr t15 (same_tr s16 s17)) h17
    · rintro σ H8 ⟨D8, p, d, x4, x5, x6, x7, x8, x9, rfl, h8, dat, ok⟩
      exact hN _ _ ⟨D8, _, _, _, _, _, _, _, _, rfl, h8⟩
  rintro σ H2 ⟨D2, x2, x3, x4, x5, x6, x7, x8, x9, rfl, h2⟩
  walk_at "st"
  exact k _
end
/-! ### text Z1 -/
/-! ## the law's end: its run at the caller alone (repr leans on what stands around) -/
section
variable {P : Program} {w : World} {K : PySem.W.Frag} {mg mb : Str → Option Value} {base : Heap} {fa a : Addr} {fd : FuncData}
abbrev lawN : List Str := ["_law_script", "_law_stock_here", "_law_turn", "_law_deal_here", "_law_again", "_law_due", "_law_words", "_law_row", "_law_text", "_law_told"]
/-- the law's def, called by the caller, keeps its promise -/
def RunA (P : Program) (w : World) (K : PySem.W.Frag) (mg : Str → Option Value) (base : Heap) (fa : Addr) : Prop := ∀ (st : Shared) (H : Hp) (u : Value) (v : V) (Q : VK) (E : XK),
  Env0 P w K mg base callerA [] st H → RelV v u → spLaw K [v] H Q E → codeAny (model P w) callerA (.call (.ref fa) ⟨[u], []⟩) (CR CX0 [] P w H st Q E) st
theorem room_law : Room 15 callerA := ⟨rfl, by decide, by decide⟩
theorem runA (T : Txt K mg) (F : FunD K "law" "law" (defArgs s_law) (defBody s_law) (defScope s_law) [] [] fa fd) : RunA P w K mg base fa := by
  intro st H u v Q E env rel hsp
  have S := sc_law
  have hbind := F.bindsA (ps := ["_law_script"]) (fun _ _ _ _ _ _ us hl => match us, hl with | [_], _ => rfl) st [u] rfl
  obtain ⟨oc, od, dV, kV, doc, pm, an, cdv, ct, osl, rfl, lk, hcd, _, _⟩ := F.ex
  have stay : ∀ b o, base.get? b = some o → st.heap.get? b = some o := fun b o e => (env.bs b o e).1
  have inK : K.In st.heap := env.mod.kin.keeps stay
  have free : st.heap.NoLimit := env.mod.nolimit.keeps stay
  refine codeAny_call_function room_law.depth (inK _ _ lk) rfl S.co S.gen rfl (PySem.W.codeRec_of inK hcd) (hbind _ _ _ _ ?_)
  refine wpAny_newFunctionEnv_cells S.kind (fun y hy => ?_) fun ev hev st1 hin => ?_
  · rcases S.par y.1 (List.of_mem_zip hy).1 with q | q
    · exact .inl q
    · exact .inr ⟨q, PySem.W.cellsFrom_some _ _ _ (.inl q)⟩
  subst hev
  refine ⟨free.keeps hin.toInCall.keep, codeAny_func ?_⟩
  obtain ⟨t, ht, hq⟩ := b_law (P := P) (w := w) (base := base) T fa cdv st H [v] Q E (room_law.deeper _) hsp
  have I := inv_start (CX := CX0) (P := P) (w := w) (K := K) (mg := mg) (base := base) (E := E) S room_law.hd env (vs := [v]) (us := [u]) rfl (show Vals [v] [u] from .cons rel .nil) hin
  refine wpAny_mono ((PSs.nox ht).run [] st1 _ H _ I hq) (fun fl st2 hs => ?_) fun e st2 hs => hs
  cases fl with
  | ret r =>
    obtain ⟨v2, σ2, H2, J, rv, q⟩ := hs
    exact ⟨v2, H2, J.os, J.bare, J.base, J.hok, rv, q⟩
  | next =>
    obtain ⟨σ2, H2, J, q⟩ := hs
    exact ⟨.non, H2, J.os, J.bare, J.base, J.hok, rfl, q⟩
  | brk =>
    obtain ⟨_, _, _, q⟩ := hs
    exact q.elim
  | cont =>
    obtain ⟨_, _, _, q⟩ := hs
    exact q.elim
end
/-! ### the script, tracked as an object that stays -/
section
variable {P : Program} {w : World} {K : PySem.W.Frag} {mg mb : Str → Option Value} {fa a : Addr} {s₁ : Shared} {vs : List Value} {ns : List Int}
theorem ints_vals : ∀ {us : List Value} {ks : List Int}, IntsAre us ks → Vals (ks.map V.int) us
  | _, _, .nil => .nil
  | _, _, .cons _ t hr => .cons ⟨t, rfl⟩ (ints_vals hr)
def Track (P : Program) (w : World) (K : PySem.W.Frag) (a : Addr) (ns : List Int) (hp : Heap) (X : Hp) : Prop :=
  (∀ b u, X b = some u → b = a ∧ K.lookup a = none ∧ ∃ o xs, u = .frz o (.lst xs)) ∧ SqL K X a (ns.map V.int) ∧ HOk P w X hp
theorem tracked (KX : K.In s₁.heap) (ha : s₁.heap.get? a = some { cls := .type "list", data := .seq vs.toArray }) (hi : IntsAre vs ns) (hl : ns.length ≤ sizeLine) : ∃ X, Track P w K a ns s₁.heap X := by
  have rv := ints_vals hi
  cases hk : K.lookup a with
  | some o =>
    have same := (KX a o hk).symm.trans ha
    cases same
    refine ⟨fun _ => none, fun b u z => (by cases z), .inr ⟨_, _, _, hk, rfl, rfl, rfl, ?_, rv⟩, fun b u z => (by cases z)⟩
    rw [List.size_toArray, hi.length]
    exact hl
  | none =>
    have z1 : ∀ b u, (if b = a then some (HO.frz { cls := .type "list", data := .seq vs.toArray } (.lst (ns.map V.int))) else none) = some u → b = a ∧ u = .frz { cls := .type "list", data := .seq vs.toArray } (.lst (ns.map V.int)) := fun b u z => by
      by_cases hb : b = a
      · rw [if_pos hb] at z
        cases z
        exact ⟨hb, rfl⟩
      · rw [if_neg hb] at z
        cases z
    refine ⟨fun b => if b = a then some (.frz { cls := .type "list", data := .seq vs.toArray } (.lst (ns.map V.int))) else none, fun b u z => ?_, .inl (.inr ⟨_, if_pos rfl⟩), fun b u z => ?_⟩
    · obtain ⟨e1, e2⟩ := z1 b u z
      exact ⟨e1, hk, _, _, e2⟩
    · obtain ⟨e1, e2⟩ := z1 b u z
      subst e1
      subst e2
      exact ⟨ha, by rw [List.length_map]; exact hl, vs, _, rv, ha⟩
theorem lawA (KX : K.In s₁.heap) (hns : s₁.heap.Ns mainGlobals mg) (hb : s₁.heap.Ns builtinsNs mb) (hbb : ∀ x : Str, x ≠ "__name__" → mb x = bootBuiltins x) (hlim : s₁.heap.NoLimit) (hg : s₁.gens = #[])
    (ha : s₁.heap.get? a = some { cls := .type "list", data := .seq vs.toArray }) (hi : IntsAre vs ns) (hl : ns.length ≤ sizeLine) (R : ∀ base : Heap, K.In base → base.Ns mainGlobals mg → RunA P w K mg base fa) :
    codeAny (model P w) callerA (.call (.ref fa) ⟨[.ref a], []⟩) (fun r s' => r = .ok (.ret (.bool true)) ∧ OldK s₁.heap s'.heap ∧ s'.os = s₁.os ∧ AllBare s'.gens) s₁ := by
  obtain ⟨X, only, seq, held⟩ := tracked (P := P) (w := w) KX ha hi hl
  have dictFree : ∀ {b : Addr} {o : Obj} {es : Array DictEntry} {ep : Nat}, s₁.heap.get? b = some o → o.data = .dict es ep → X b = none := fun {b o es ep} e ed => by
    cases q : X b with
    | none => rfl
    | some u =>
      obtain ⟨rfl, _⟩ := only b u q
      cases e.symm.trans ha
      cases ed
  have names : ∀ {b : Addr} {m : Str → Option Value}, s₁.heap.Ns b m → (hidT s₁.heap X).Ns b m := fun {b m} hN => by
    obtain ⟨o, es, ep, e, ed, rest⟩ := hN
    exact ⟨o, es, ep, hidT_get e (dictFree e ed), ed, rest⟩
  have inB : K.In (hidT s₁.heap X) := fun b o e => by
    refine hidT_get (KX b o e) ?_
    cases q : X b with
    | none => rfl
    | some u =>
      obtain ⟨rfl, hn, _⟩ := only b u q
      exact absurd (hn.symm.trans e) (by simp)
  have md : Mod K mg (hidT s₁.heap X) := by
    obtain ⟨mc, l1, l2⟩ := hlim
    exact ⟨inB, names hns, ⟨mb, names hb, hbb⟩, ⟨mc, names l1, l2⟩⟩
  have env : Env0 P w K mg (hidT s₁.heap X) callerA [] s₁ X := ⟨rfl, md, fun b o e => of_hidT e, Nat.le_of_eq (hidT_size _ _), trivial, fun b z => (by cases z), held, .of_eq hg⟩
  refine codeAny_mono (R _ inB (names hns) s₁ X (.ref a) (.ref a) (fun v _ => v = .bl true) (fun _ _ _ => False) env rfl ⟨a, ns, rfl, seq, fun _ => rfl⟩) fun r s' hr => ?_
  cases r with
  | error e => exact False.elim hr
  | ok fl =>
    cases fl with
    | next => exact False.elim hr
    | brk => exact False.elim hr
    | cont => exact False.elim hr
    | ret u =>
      obtain ⟨v, Y, os, bare, un, held2, rel, rfl⟩ := hr
      obtain rfl : u = Value.bool true := rel
      refine ⟨rfl, OldK.of_keep fun b o e => ?_, os, bare⟩
      cases q : X b with
      | none => exact un.keep b o e q (fun z => (by cases z)) (by simp)
      | some u =>
        obtain ⟨_, _, o2, xs, rfl⟩ := only b u q
        have first := (held b _ q).1
        rw [e] at first
        cases first
        exact (held2 b _ (un.frzs b _ _ q)).1
end
/-! ### text Z4 -/
theorem law_walk {w : World} {s₁ : Shared} {mg mb : Str → Option Value} {fa a : Addr} {vs : List Value} {ns : List Int} (Y : hk.says w s₁.heap) (hns : s₁.heap.Ns mainGlobals mg) (hb : s₁.heap.Ns builtinsNs mb) (hbb : ∀ x : Str, x ≠ "__name__" → mb x = bootBuiltins x) (hlim : s₁.heap.NoLimit)
    (hg : s₁.gens = #[]) (hfa : mg ("law" : Str) = some (.ref fa)) (ha : s₁.heap.get? a = some { cls := .type "list", data := .seq vs.toArray }) (hi : IntsAre vs ns) (hl : ns.length ≤ 63) :
    codeAny (model R.prog w) callerA (.call (.ref fa) ⟨[.ref a], []⟩) (fun r s' => r = .ok (.ret (.bool true)) ∧ OldK s₁.heap s'.heap ∧ s'.os = s₁.os ∧ AllBare s'.gens) s₁ := by
  obtain ⟨K, KX, hsee⟩ := Y
  obtain ⟨ct, c⟩ := says_two hsee
  have T := txt_of KX hns ct c
  obtain ⟨fd, F⟩ := law_fun c
  obtain ⟨f2, fd2, _, e2⟩ := T.d_law.ex
  have e : He.ga K "law" = fa := by
    have g : mg ("law" : Str) = some (.ref (He.ga K "law")) := law_glo KX hns c
    rw [hfa] at g
    cases g
    rfl
  rw [e] at F
  exact lawA KX hns hb hbb hlim hg ha hi (Nat.le_trans hl (by decide)) fun base _ _ => runA T F
end Bk
open PySem PySem.W PySem.Calls PyProof.Rows
set_option maxRecDepth 100000 in
set_option maxHeartbeats 0 in
theorem PySem.Challenge.cw_suretrips_k77_whole_books_told_in_any_wo_holds : PySem.Challenge.rw_suretrips_k77_whole_books_told_in_any_wo.Holds := by
  w_on; o_law
  refine HandSHeadRun.head_any (r := Bk.R) (q := view Bk.R.prog [72]) (H := Bk.hk) (ob := Bk.ob) (M := 12000) (loose := Bk.loose) (d := HandSHeadRun.topDef Bk.R.prog 72) (kwd := []) Bk.ob_eq
    (by kernel_rfl) (fun s => by kernel_rfl) Bk.run (by kernel_rfl) (by kernel_rfl) (by kernel_rfl) (by rfl) (by first | assumption | decide +kernel) (by decide +kernel) ⟨rfl, rfl, rfl, rfl, rfl, by decide +kernel⟩ ?hw ?hc
  case hw => w_witness2
  case hc =>
    refine Att.attach_call (l := PySem.Challenge.rw_suretrips_k77_whole_books_told_in_any_wo) (n := 63) rfl (by kernel_rfl) fun w s₀ s₁ mg mb fa o pm cd doc a vs ns G Y ho hd hcd hmg hobj hints hlen hg => ?_
    have hfa : mg ("law" : PySem.Str) = some (.ref fa) := by
      have e : (HandSHeadRun.topDef Bk.R.prog 72).name = ("law" : PySem.Str) := by kernel_rfl
      rw [← e]
      exact hmg
    exact Bk.law_walk Y G.T.g G.T.b G.T.builtins G.T.nolimit hg hfa hobj hints hlen
