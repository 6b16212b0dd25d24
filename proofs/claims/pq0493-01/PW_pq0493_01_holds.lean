import PyProof.Rows.All
import Wide.All
import OpenK.AllK
import Wide.FinOn
import KE.KDictAny
import KE.KDictAnyGet
import KE.KDictLaws
import KE.KDictList
import KE.KDictSum
import KE.KItemsList
import KE.KLcTest
import KE.KSortAsk
import KE.KTryDeep
import KE.KTryMore
import PyProof.ExcClass3
import PyProof.InstStoreFacts
import PyProof.ListNew
import PyProof.NeKinds
import PyProof.Rows.DictListVals
import PyProof.Rows.SortStr
import PyProof.ZipIter
import Lean
import PySem.Challenge.RW_pq0493_01
open PySem PySem.W PyProof.Rows PySem.Calls PySem.Spec
set_option Elab.async false
set_option linter.all false
set_option rowWalk.seconds 0
section
namespace Mine
theorem ti_sub_add {a b : Nat} (i : Nat) (h : b ≤ a) : ((a : Int) - (b : Int) + (i : Int)).toNat = a - b + i := by
  rw [← Int.ofNat_sub h]; rfl
theorem ti_add_sub (a b n : Nat) : ((a : Int) + (b : Int) - (n : Int)).toNat = a + b - n := Int.toNat_sub (a + b) n
theorem min_lift (o k : Nat) {c k' : Int} (e : k' = (k : Int)) (h1 : c ≤ (o : Int)) (h2 : c ≤ k') (h3 : c = (o : Int) ∨ c = k') : c = ((min o k : Nat) : Int) := by
  subst e
  rcases h3 with rfl | rfl
  · rw [Nat.min_eq_left (Int.ofNat_le.mp h2)]
  · rw [Nat.min_eq_right (Int.ofNat_le.mp h1)]
theorem sub_lift {f b n : Nat} (h : f + b ≤ n) : (n : Int) - (f : Int) - (b : Int) = ((n - f - b : Nat) : Int) := by
  rw [Nat.sub_sub, Int.ofNat_sub h, Int.sub_sub]; rfl
theorem came_fit {f b n : Nat} (o : Nat) (h : f + b ≤ n) : f + min o (n - f - b) + b ≤ n := by
  have e : f + (n - f - b) + b = n := by rw [Nat.sub_sub, Nat.add_right_comm, Nat.add_sub_cancel' h]
  exact Nat.le_trans (Nat.add_le_add_right (Nat.add_le_add_left (Nat.min_le_right _ _) f) b) (Nat.le_of_eq e)
theorem rest30 {n : Nat} (x k : Nat) (h : n ≤ 30) : min x n - k ≤ 30 := Nat.le_trans (Nat.sub_le _ _) (Nat.le_trans (Nat.min_le_right _ _) h)
theorem fold_le {a l l' K i m k : Nat} (h : a ≤ l' + 2 * min i m) (hi : i < k) (hk : k ≤ 2) (hl : l' ≤ l + 10) (hK : l + 12 ≤ K) : a ≤ K :=
  Nat.le_trans h (Nat.le_trans (Nat.add_le_add hl (Nat.mul_le_mul_left 2 (Nat.le_trans (Nat.min_le_left _ _) (Nat.le_of_lt_succ (Nat.lt_of_lt_of_le hi hk))))) hK)
theorem mid_len {f c b n o : Nat} (h1 : f + c + b ≤ n) (h2 : c ≤ o) : min o (min (f + c) n - f) = c := by
  rw [Nat.min_eq_left (Nat.le_trans (Nat.le_add_right _ b) h1), Nat.add_sub_cancel_left, Nat.min_eq_right h2]
theorem back_len {f b n : Nat} (h : f + b ≤ n) : min b (n - (n - b)) = b := by
  rw [Nat.sub_sub_self (Nat.le_trans (Nat.le_add_left b f) h), Nat.min_self]
theorem pad_max (n k : Nat) : n + (k - n) ≤ max n k := by
  rcases Nat.le_total n k with h | h
  · rw [Nat.add_sub_cancel' h]; exact Nat.le_max_right _ _
  · rw [Nat.sub_eq_zero_of_le h]; exact Nat.le_max_left _ _
theorem clip_lift {y : Int} (s : Nat) (h : 0 ≤ y) : max 0 (min y (s : Int)) = ((min y.toNat s : Nat) : Int) := by
  obtain ⟨n, rfl⟩ := Int.eq_ofNat_of_zero_le h
  rw [Int.max_eq_right (Int.le_min.2 ⟨h, Int.natCast_nonneg _⟩), Int.toNat_natCast]
  rcases Nat.le_total n s with h | h
  · rw [Nat.min_eq_left h, Int.min_eq_left (Int.ofNat_le.2 h)]
  · rw [Nat.min_eq_right h, Int.min_eq_right (Int.ofNat_le.2 h)]
theorem pos_le {f b n : Nat} (h : 0 < (f : Int) + (b : Int) - (n : Int)) : n ≤ f + b := Int.ofNat_le.mp (Int.le_of_lt (Int.lt_of_sub_pos h))
theorem neg_le {f b n : Nat} (h : ¬ 0 < (f : Int) + (b : Int) - (n : Int)) : f + b ≤ n := Int.ofNat_le.mp (Int.le_of_sub_nonpos (Int.not_lt.mp h))
theorem pad_le {f b n : Nat} (o : Nat) (h : n ≤ f + b) : n + (f + b - n) ≤ f + o + b := by
  rw [Nat.add_sub_cancel' h]; exact Nat.add_le_add_right (Nat.le_add_right f o) b
theorem pad24 {n f b : Nat} (h : n ≤ 20) (hf : f ≤ 2) (hb : b ≤ 2) : n + (f + b - n) ≤ 24 :=
  Nat.le_trans (Nat.add_le_add h (Nat.le_trans (Nat.sub_le _ _) (Nat.add_le_add hf hb))) (by decide)
theorem max24 {x n f b : Nat} (hx : x ≤ max n (f + b)) (h : n ≤ 20) (hf : f ≤ 2) (hb : b ≤ 2) : x ≤ 24 :=
  Nat.le_trans hx (Nat.max_le.2 ⟨Nat.le_trans h (by decide), Nat.le_trans (Nat.add_le_add hf hb) (by decide)⟩)
theorem min2 {u o x : Nat} (e : u = min o x) (h : o ≤ 2) : u ≤ 2 := e ▸ Nat.le_trans (Nat.min_le_left _ _) h
theorem three_le (c : Nat) {i : Nat} (h : i ≤ 1) : c + 3 * (1 - i) + 3 ≤ c + 3 * (2 - i) := by
  match i, h with
  | 0, _ => exact Nat.le_refl _
  | 1, _ => exact Nat.le_refl _
theorem step_le {n j : Nat} (h : j < n) : n - (j + 1) + 1 ≤ n - j := by
  rw [Nat.sub_add_eq, Nat.sub_add_cancel (Nat.sub_pos_of_lt h)]; exact Nat.le_refl _
end Mine
end
section
namespace Mine
set_option maxRecDepth 100000
set_option maxHeartbeats 0
noncomputable abbrev pg : Program := PySem.Challenge.pw_pq0493_01
noncomputable def nth : List Stmt → Nat → Stmt
  | [], _ => .Pass ⟨0, 0, 0, 0⟩
  | x :: _, 0 => x
  | _ :: l, n + 1 => nth l n
noncomputable def inCls : Stmt → List Stmt
  | .ClassDef _ _ _ b _ _ _ _ _ _ _ => b
  | _ => []
noncomputable def stm (i : Nat) : Stmt := nth pg.main.body i
noncomputable def sub (i j : Nat) : Stmt := nth (inCls (stm i)) j
noncomputable abbrev de (P : Params) (x : Str) (t : Nat) (v : Value) : DictEntry := ⟨PyData.keyHash P x, .str x t, v⟩
@[reducible] noncomputable def fnL {n : Str} {ps : Arguments} {b : List Stmt} {ds : List Expr} {ret : Option Expr} {tps : List TypeParam} {sc : Scope} {tsc : Option Scope} {bd : Str} {pos : Pos} (st : Stmt)
  (_ : st = .FunctionDef n ps b ds ret tps sc tsc bd pos) (qn : Str) (df pm cd : Value) : Obj :=
  ⟨.type "function", none, .func { name := n, qualname := qn, params := ps, body := .stmts b, scope := sc, globals := 3, closure := [], defaults := df, kwdefaults := .none, doc := .none, pyModule := pm, annotations := none, code := cd, closureTuple := .none, builtins := 0 }, #[]⟩
noncomputable def tmp : Obj → Obj
  | ⟨_, d, .func f, s⟩ => ⟨.none, d, .func { f with globals := 0, defaults := .none, pyModule := .none, code := .none }, s⟩
  | x => x
noncomputable def o3 (P : Params) : Obj := ⟨.type "dict", none, (.dict #[de P "__name__" (nat_lit 165) (.str "law_pq0493_01" (nat_lit 1618)), de P "__doc__" (nat_lit 166) .none, de P "__package__" (nat_lit 167) .none, de P "__loader__" (nat_lit 168) (.builtin "__main__.__loader__#opaque"), de P "__spec__" (nat_lit 169) .none, de P "__annotations__" (nat_lit 170) (.ref 6), de P "__builtins__" (nat_lit 171) (.ref 4), de P "__file__" (nat_lit 173) (.str "/claim/cut.py" (nat_lit 172)), de P "__cached__" (nat_lit 174) .none, de P "_wall" (nat_lit 193) (.ref 21), de P "GemError" (nat_lit 223) (.ref 39), de P "BadArgument" (nat_lit 239) (.ref 52), de P "Raised" (nat_lit 264) (.ref 71), de P "FIELDS" (nat_lit 496) (.ref 74), de P "Node" (nat_lit 539) (.ref 166), de P "Params" (nat_lit 583) (.ref 198), de P "DEEPEST_KEY" (nat_lit 587) (.int 12 (nat_lit 586)), de P "MOST_SEEN" (nat_lit 589) (.int 20000 (nat_lit 588)), de P "Thing" (nat_lit 624) (.ref 219), de P "Text" (nat_lit 652) (.ref 241), de P "ListThing" (nat_lit 679) (.ref 261), de P "TableThing" (nat_lit 729) (.ref 299), de P "RangeThing" (nat_lit 760) (.ref 319), de P "ProcThing" (nat_lit 803) (.ref 340), de P "ErrorThing" (nat_lit 831) (.ref 360), de P "FiberThing" (nat_lit 861) (.ref 380), de P "ModuleThing" (nat_lit 908) (.ref 407), de P "sort_of" (nat_lit 915) (.ref 416), de P "same" (nat_lit 924) (.ref 423), de P "takes_in" (nat_lit 932) (.ref 430), de P "code_of" (nat_lit 938) (.ref 436), de P "full_name" (nat_lit 948) (.ref 443), de P "least_of" (nat_lit 957) (.ref 450), de P "most_of" (nat_lit 964) (.ref 457), de P "places_of" (nat_lit 971) (.ref 464), de P "bounds_text" (nat_lit 979) (.ref 471), de P "check_count" (nat_lit 990) (.ref 478), de P "group_names" (nat_lit 997) (.ref 485), de P "names_in" (nat_lit 1003) (.ref 490), de P "fitted" (nat_lit 1013) (.ref 497), de P "items_of" (nat_lit 1020) (.ref 504), de P "put_place" (nat_lit 1030) (.ref 511), de P "put_all" (nat_lit 1045) (.ref 518), de P "bind" (nat_lit 1057) (.ref 525), de P "raise_version" (nat_lit 1066) (.ref 532), de P "own_module" (nat_lit 1076) (.ref 539), de P "class_above" (nat_lit 1083) (.ref 546), de P "make_own" (nat_lit 1093) (.ref 553), de P "MODULES" (nat_lit 1099) (.ref 554), de P "BUILTINS" (nat_lit 1216) (.ref 555), de P "MIXED" (nat_lit 1238) (.ref 558), de P "UNMADE" (nat_lit 1244) (.ref 566), de P "World" (nat_lit 1617) (.ref 842), de P "_law_box" (nat_lit 1629) (.ref 853), de P "_law_take" (nat_lit 1637) (.ref 860), de P "_law_name" (nat_lit 1646) (.ref 867), de P "_law_places" (nat_lit 1656) (.ref 874), de P "_law_row" (nat_lit 1670) (.ref 881), de P "_law_made" (nat_lit 1676) (.ref 886), de P "_law_written" (nat_lit 1690) (.ref 893), de P "_law_pairs" (nat_lit 1709) (.ref 900), de P "_law_is" (nat_lit 1715) (.ref 905), de P "_law_bound_right" (nat_lit 1721) (.ref 910), de P "law" (nat_lit 1727) (.ref 915)] 64), #[]⟩
noncomputable def o11 : Obj := ⟨.type "tuple", none, (.seq #[] 0), #[]⟩
noncomputable def o12 : Obj := ⟨.none, none, (.fields #[.int 1 0, .int 0 0, .ref 20, .int 5 0, .int 0 0, .ref 27, .int 10 0, .int 0 0, .ref 48, .int 12 0, .int 0 0, .ref 60, .int 19 0, .int 0 0, .ref 146, .int 31 0, .int 0 0, .ref 176, .int 45 0, .int 0 0, .ref 208, .int 54 0, .int 0 0, .ref 229, .int 59 0, .int 0 0, .ref 249, .int 64 0, .int 0 0, .ref 269, .int 79 0, .int 0 0, .ref 307, .int 86 0, .int 0 0, .ref 327, .int 99 0, .int 0 0, .ref 348, .int 105 0, .int 0 0, .ref 368, .int 113 0, .int 0 0, .ref 388, .int 131 0, .int 0 0, .ref 415, .int 139 0, .int 0 0, .ref 422, .int 144 0, .int 0 0, .ref 429, .int 149 0, .int 0 0, .ref 435, .int 164 0, .int 0 0, .ref 442, .int 180 0, .int 0 0, .ref 449, .int 182 0, .int 0 0, .ref 456, .int 184 0, .int 0 0, .ref 463, .int 186 0, .int 0 0, .ref 470, .int 190 0, .int 0 0, .ref 477, .int 194 0, .int 0 0, .ref 484, .int 196 0, .int 0 0, .ref 489, .int 208 0, .int 0 0, .ref 496, .int 213 0, .int 0 0, .ref 503, .int 215 0, .int 0 0, .ref 510, .int 220 0, .int 0 0, .ref 517, .int 233 0, .int 0 0, .ref 524, .int 244 0, .int 0 0, .ref 531, .int 246 0, .int 0 0, .ref 538, .int 258 0, .int 0 0, .ref 545, .int 260 0, .int 0 0, .ref 552, .int 272 0, .int 0 0, .ref 572, .int 475 0, .int 0 0, .ref 852, .int 484 0, .int 0 0, .ref 859, .int 490 0, .int 0 0, .ref 866, .int 496 0, .int 0 0, .ref 873, .int 504 0, .int 0 0, .ref 880, .int 512 0, .int 0 0, .ref 885, .int 518 0, .int 0 0, .ref 892, .int 524 0, .int 0 0, .ref 899, .int 542 0, .int 0 0, .ref 904, .int 547 0, .int 0 0, .ref 909, .int 566 0, .int 0 0, .ref 914]), #[]⟩
noncomputable def o13 : Obj := ⟨.type "code", none, (.fields #[.str "<module>" (nat_lit 182), .str "<module>" (nat_lit 183), .str "/claim/cut.py" (nat_lit 184), .int 1 0, .int 0 0, .int 0 0, .int 0 0, .int 0 0, .ref 11, .bool false, .int 181 0, .ref 12, .none, .none, .none, .none, .int 185 0, .int 1 0, .str "/claim/cut.py" (nat_lit 186)]), #[]⟩
noncomputable def o14 : Obj := ⟨.type "frame", none, .plain, #[some (.ref 13), some (.ref 3), some (.ref 3), none, some (.str "__main__" (nat_lit 164)), none, some (.ref 0)]⟩
noncomputable def o16 : Obj := ⟨.none, none, (.fields #[]), #[]⟩
noncomputable def o17 : Obj := ⟨.type "tuple", none, (.seq #[.str "k" (nat_lit 190)] 0), #[]⟩
noncomputable def o20 : Obj := ⟨.type "code", none, (.fields #[.str "_wall" (nat_lit 187), .str "_wall" (nat_lit 188), .str "/claim/cut.py" (nat_lit 189), .int 1 0, .int 1 0, .int 0 0, .int 0 0, .int 3 0, .ref 15, .bool true, .int 181 0, .ref 16, .none, .ref 17, .ref 18, .ref 19, .int 191 0, .int 1 0, .str "/claim/cut.py" (nat_lit 192)]), #[]⟩
noncomputable def o21 : Obj := fnL (stm 0) rfl "_wall" .none (.str "__main__" (nat_lit 164)) (.ref 20)
noncomputable def o22 : Obj := ⟨.type "tuple", none, (.seq #[.type "ValueError"] 0), #[]⟩
noncomputable def o23 : Obj := ⟨.type "builtin_function_or_method", none, (.fields #[.builtin "type.__prepare__", .type "type"]), #[]⟩
noncomputable def o24 (P : Params) : Obj := ⟨.type "dict", none, (.dict #[de P "__module__" (nat_lit 203) (.str "gemrows.errors" (nat_lit 194)), de P "__qualname__" (nat_lit 205) (.str "GemError" (nat_lit 204)), de P "__firstlineno__" (nat_lit 207) (.int 5 (nat_lit 206)), de P "__init__" (nat_lit 216) (.ref 36), de P "__static_attributes__" (nat_lit 218) (.ref 37)] 5), #[]⟩
noncomputable def o26 : Obj := ⟨.none, none, (.fields #[.int 7 0, .int 4 0, .ref 35]), #[]⟩
noncomputable def o27 : Obj := ⟨.type "code", none, (.fields #[.str "GemError" (nat_lit 198), .str "GemError" (nat_lit 199), .str "/claim/cut.py" (nat_lit 200), .int 5 0, .int 0 0, .int 0 0, .int 0 0, .int 0 0, .ref 25, .bool false, .int 181 0, .ref 26, .none, .none, .none, .none, .int 201 0, .int 5 0, .str "/claim/cut.py" (nat_lit 202)]), #[]⟩
noncomputable def o28 : Obj := ⟨.type "frame", none, .plain, #[some (.ref 27), some (.ref 3), some (.ref 24), none, some (.str "gemrows.errors" (nat_lit 194)), none, some (.ref 0)]⟩
noncomputable def o29 : Obj := ⟨.type "tuple", none, (.seq #[.str "" (nat_lit 208)] 0), #[]⟩
noncomputable def o32 : Obj := ⟨.type "tuple", none, (.seq #[.str "self" (nat_lit 212), .str "reason" (nat_lit 213)] 0), #[]⟩
noncomputable def o35 : Obj := ⟨.type "code", none, (.fields #[.str "__init__" (nat_lit 209), .str "GemError.__init__" (nat_lit 210), .str "/claim/cut.py" (nat_lit 211), .int 7 0, .int 2 0, .int 0 0, .int 0 0, .int 3 0, .ref 30, .bool true, .int 181 0, .ref 31, .none, .ref 32, .ref 33, .ref 34, .int 214 0, .int 7 0, .str "/claim/cut.py" (nat_lit 215)]), #[]⟩
noncomputable def o36 : Obj := fnL (sub 2 0) rfl "GemError.__init__" (.ref 29) (.str "gemrows.errors" (nat_lit 194)) (.ref 35)
noncomputable def o37 : Obj := ⟨.type "tuple", none, (.seq #[.str "reason" (nat_lit 217)] 0), #[]⟩
noncomputable def o38 (P : Params) : Obj := ⟨.type "dict", none, (.dict #[de P "__module__" (nat_lit 203) (.str "gemrows.errors" (nat_lit 194)), de P "__firstlineno__" (nat_lit 207) (.int 5 (nat_lit 206)), de P "__init__" (nat_lit 216) (.ref 36), de P "__static_attributes__" (nat_lit 218) (.ref 37), de P "__weakref__" (nat_lit 220) (.ref 40), de P "__doc__" (nat_lit 221) .none] 3), #[]⟩
noncomputable def o39 : Obj := ⟨.type "type", none, (.cls ⟨"GemError", [.type "ValueError"], [.ref 39, .type "ValueError", .type "Exception", .type "BaseException", .type "object"], 38, "GemError", true, [], [.ref 52, .ref 71], false, none, false⟩), #[some (.ref 22), none, some (.str "GemError" (nat_lit 196)), some (.str "GemError" (nat_lit 204)), some (.builtin "ValueError.__new__"), some (.bool true)]⟩
noncomputable def o40 : Obj := ⟨.type "getset_descriptor", none, (.fields #[.str "__weakref__" (nat_lit 219), .ref 39, .builtin "ExceptionGroup.__weakref__", .none]), #[]⟩
noncomputable def o41 : Obj := ⟨.type "super", none, (.fields #[.ref 39, .ref 39, .ref 39]), #[]⟩
noncomputable def o42 : Obj := ⟨.type "builtin_function_or_method", none, (.fields #[.builtin "object.__init_subclass__", .ref 39]), #[]⟩
noncomputable def o43 : Obj := ⟨.type "tuple", none, (.seq #[.ref 39] 0), #[]⟩
noncomputable def o45 (P : Params) : Obj := ⟨.type "dict", none, (.dict #[de P "__module__" (nat_lit 231) (.str "gemrows.errors" (nat_lit 194)), de P "__qualname__" (nat_lit 233) (.str "BadArgument" (nat_lit 232)), de P "__firstlineno__" (nat_lit 235) (.int 10 (nat_lit 234)), de P "__static_attributes__" (nat_lit 236) (.ref 50)] 4), #[]⟩
noncomputable def o48 : Obj := ⟨.type "code", none, (.fields #[.str "BadArgument" (nat_lit 226), .str "BadArgument" (nat_lit 227), .str "/claim/cut.py" (nat_lit 228), .int 10 0, .int 0 0, .int 0 0, .int 0 0, .int 0 0, .ref 46, .bool false, .int 181 0, .ref 47, .none, .none, .none, .none, .int 229 0, .int 10 0, .str "/claim/cut.py" (nat_lit 230)]), #[]⟩
noncomputable def o49 : Obj := ⟨.type "frame", none, .plain, #[some (.ref 48), some (.ref 3), some (.ref 45), none, some (.str "gemrows.errors" (nat_lit 194)), none, some (.ref 0)]⟩
noncomputable def o51 (P : Params) : Obj := ⟨.type "dict", none, (.dict #[de P "__module__" (nat_lit 231) (.str "gemrows.errors" (nat_lit 194)), de P "__firstlineno__" (nat_lit 235) (.int 10 (nat_lit 234)), de P "__static_attributes__" (nat_lit 236) (.ref 50), de P "__doc__" (nat_lit 237) .none] 2), #[]⟩
noncomputable def o52 : Obj := ⟨.type "type", none, (.cls ⟨"BadArgument", [.ref 39], [.ref 52, .ref 39, .type "ValueError", .type "Exception", .type "BaseException", .type "object"], 51, "BadArgument", true, [], [], false, none, false⟩), #[some (.ref 43), none, some (.str "BadArgument" (nat_lit 224)), some (.str "BadArgument" (nat_lit 232)), some (.builtin "ValueError.__new__"), some (.bool true)]⟩
noncomputable def o53 : Obj := ⟨.type "super", none, (.fields #[.ref 52, .ref 52, .ref 52]), #[]⟩
noncomputable def o54 : Obj := ⟨.type "builtin_function_or_method", none, (.fields #[.builtin "object.__init_subclass__", .ref 52]), #[]⟩
noncomputable def o57 (P : Params) : Obj := ⟨.type "dict", none, (.dict #[de P "__module__" (nat_lit 247) (.str "gemrows.errors" (nat_lit 194)), de P "__qualname__" (nat_lit 249) (.str "Raised" (nat_lit 248)), de P "__firstlineno__" (nat_lit 251) (.int 12 (nat_lit 250)), de P "__init__" (nat_lit 259) (.ref 68), de P "__static_attributes__" (nat_lit 261) (.ref 69)] 5), #[]⟩
noncomputable def o59 : Obj := ⟨.none, none, (.fields #[.int 14 0, .int 4 0, .ref 67]), #[]⟩
noncomputable def o60 : Obj := ⟨.type "code", none, (.fields #[.str "Raised" (nat_lit 242), .str "Raised" (nat_lit 243), .str "/claim/cut.py" (nat_lit 244), .int 12 0, .int 0 0, .int 0 0, .int 0 0, .int 0 0, .ref 58, .bool false, .int 181 0, .ref 59, .none, .none, .none, .none, .int 245 0, .int 12 0, .str "/claim/cut.py" (nat_lit 246)]), #[]⟩
noncomputable def o61 : Obj := ⟨.type "frame", none, .plain, #[some (.ref 60), some (.ref 3), some (.ref 57), none, some (.str "gemrows.errors" (nat_lit 194)), none, some (.ref 0)]⟩
noncomputable def o64 : Obj := ⟨.type "tuple", none, (.seq #[.str "self" (nat_lit 255), .str "thing" (nat_lit 256)] 0), #[]⟩
noncomputable def o67 : Obj := ⟨.type "code", none, (.fields #[.str "__init__" (nat_lit 252), .str "Raised.__init__" (nat_lit 253), .str "/claim/cut.py" (nat_lit 254), .int 14 0, .int 2 0, .int 0 0, .int 0 0, .int 3 0, .ref 62, .bool true, .int 181 0, .ref 63, .none, .ref 64, .ref 65, .ref 66, .int 257 0, .int 14 0, .str "/claim/cut.py" (nat_lit 258)]), #[]⟩
noncomputable def o68 : Obj := fnL (sub 4 0) rfl "Raised.__init__" .none (.str "gemrows.errors" (nat_lit 194)) (.ref 67)
noncomputable def o69 : Obj := ⟨.type "tuple", none, (.seq #[.str "thing" (nat_lit 260)] 0), #[]⟩
noncomputable def o70 (P : Params) : Obj := ⟨.type "dict", none, (.dict #[de P "__module__" (nat_lit 247) (.str "gemrows.errors" (nat_lit 194)), de P "__firstlineno__" (nat_lit 251) (.int 12 (nat_lit 250)), de P "__init__" (nat_lit 259) (.ref 68), de P "__static_attributes__" (nat_lit 261) (.ref 69), de P "__doc__" (nat_lit 262) .none] 2), #[]⟩
noncomputable def o71 : Obj := ⟨.type "type", none, (.cls ⟨"Raised", [.ref 39], [.ref 71, .ref 39, .type "ValueError", .type "Exception", .type "BaseException", .type "object"], 70, "Raised", true, [], [], false, none, false⟩), #[some (.ref 55), none, some (.str "Raised" (nat_lit 240)), some (.str "Raised" (nat_lit 248)), some (.builtin "ValueError.__new__"), some (.bool true)]⟩
noncomputable def o72 : Obj := ⟨.type "super", none, (.fields #[.ref 71, .ref 71, .ref 71]), #[]⟩
noncomputable def o73 : Obj := ⟨.type "builtin_function_or_method", none, (.fields #[.builtin "object.__init_subclass__", .ref 71]), #[]⟩
noncomputable def o74 (P : Params) : Obj := ⟨.type "dict", none, (.dict #[de P "nil" (nat_lit 267) (.ref 75), de P "true" (nat_lit 269) (.ref 76), de P "false" (nat_lit 271) (.ref 77), de P "self" (nat_lit 273) (.ref 78), de P "retry" (nat_lit 275) (.ref 79), de P "int" (nat_lit 277) (.ref 80), de P "sym" (nat_lit 280) (.ref 81), de P "str" (nat_lit 283) (.ref 82), de P "dstr" (nat_lit 286) (.ref 83), de P "array" (nat_lit 289) (.ref 84), de P "hash" (nat_lit 292) (.ref 85), de P "range" (nat_lit 295) (.ref 86), de P "splat" (nat_lit 300) (.ref 87), de P "lvar" (nat_lit 303) (.ref 88), de P "ivar" (nat_lit 306) (.ref 89), de P "gvar" (nat_lit 309) (.ref 90), de P "const" (nat_lit 312) (.ref 91), de P "t_local" (nat_lit 316) (.ref 93), de P "t_ivar" (nat_lit 319) (.ref 94), de P "t_gvar" (nat_lit 322) (.ref 95), de P "t_const" (nat_lit 325) (.ref 96), de P "t_index" (nat_lit 328) (.ref 97), de P "t_attr" (nat_lit 332) (.ref 98), de P "t_splat" (nat_lit 336) (.ref 99), de P "t_group" (nat_lit 339) (.ref 100), de P "assign" (nat_lit 342) (.ref 101), de P "masgn" (nat_lit 346) (.ref 102), de P "opasgn" (nat_lit 350) (.ref 103), de P "call" (nat_lit 355) (.ref 104), de P "vcall" (nat_lit 362) (.ref 105), de P "block" (nat_lit 365) (.ref 106), de P "blockpass" (nat_lit 369) (.ref 107), de P "and" (nat_lit 372) (.ref 108), de P "or" (nat_lit 376) (.ref 109), de P "not" (nat_lit 380) (.ref 111), de P "super" (nat_lit 383) (.ref 112), de P "yield" (nat_lit 387) (.ref 113), de P "lambda" (nat_lit 390) (.ref 114), de P "defined" (nat_lit 394) (.ref 115), de P "seq" (nat_lit 397) (.ref 116), de P "if" (nat_lit 400) (.ref 117), de P "while" (nat_lit 405) (.ref 118), de P "case" (nat_lit 410) (.ref 119), de P "casein" (nat_lit 415) (.ref 120), de P "matchp" (nat_lit 420) (.ref 121), de P "matchq" (nat_lit 424) (.ref 122), de P "begin" (nat_lit 428) (.ref 123), de P "break" (nat_lit 434) (.ref 124), de P "next" (nat_lit 437) (.ref 125), de P "return" (nat_lit 440) (.ref 126), de P "def" (nat_lit 443) (.ref 127), de P "class" (nat_lit 449) (.ref 129), de P "module" (nat_lit 453) (.ref 130), de P "sclass" (nat_lit 456) (.ref 131), de P "alias" (nat_lit 459) (.ref 132), de P "undef" (nat_lit 462) (.ref 133), de P "p_value" (nat_lit 464) (.ref 134), de P "p_bind" (nat_lit 466) (.ref 135), de P "p_pin" (nat_lit 468) (.ref 136), de P "p_alt" (nat_lit 470) (.ref 137), de P "p_as" (nat_lit 472) (.ref 138), de P "p_array" (nat_lit 475) (.ref 139), de P "p_hash" (nat_lit 480) (.ref 140)] 63), #[]⟩
noncomputable def o80 : Obj := ⟨.type "tuple", none, (.seq #[.str "value" (nat_lit 278)] 0), #[]⟩
noncomputable def o81 : Obj := ⟨.type "tuple", none, (.seq #[.str "name" (nat_lit 281)] 0), #[]⟩
noncomputable def o82 : Obj := ⟨.type "tuple", none, (.seq #[.str "text" (nat_lit 284)] 0), #[]⟩
noncomputable def o83 : Obj := ⟨.type "tuple", none, (.seq #[.str "parts" (nat_lit 287)] 0), #[]⟩
noncomputable def o84 : Obj := ⟨.type "tuple", none, (.seq #[.str "items" (nat_lit 290)] 0), #[]⟩
noncomputable def o85 : Obj := ⟨.type "tuple", none, (.seq #[.str "pairs" (nat_lit 293)] 0), #[]⟩
noncomputable def o86 : Obj := ⟨.type "tuple", none, (.seq #[.str "first" (nat_lit 296), .str "last" (nat_lit 297), .str "open" (nat_lit 298)] 0), #[]⟩
noncomputable def o87 : Obj := ⟨.type "tuple", none, (.seq #[.str "value" (nat_lit 301)] 0), #[]⟩
noncomputable def o88 : Obj := ⟨.type "tuple", none, (.seq #[.str "name" (nat_lit 304)] 0), #[]⟩
noncomputable def o89 : Obj := ⟨.type "tuple", none, (.seq #[.str "name" (nat_lit 307)] 0), #[]⟩
noncomputable def o90 : Obj := ⟨.type "tuple", none, (.seq #[.str "name" (nat_lit 310)] 0), #[]⟩
noncomputable def o91 : Obj := ⟨.type "tuple", none, (.seq #[.str "scope" (nat_lit 313), .str "name" (nat_lit 314)] 0), #[]⟩
noncomputable def o92 (P : Params) : Obj := ⟨.type "dict", none, (.dict #[de P "t_local" (nat_lit 316) (.ref 93), de P "t_ivar" (nat_lit 319) (.ref 94), de P "t_gvar" (nat_lit 322) (.ref 95), de P "t_const" (nat_lit 325) (.ref 96), de P "t_index" (nat_lit 328) (.ref 97), de P "t_attr" (nat_lit 332) (.ref 98), de P "t_splat" (nat_lit 336) (.ref 99), de P "t_group" (nat_lit 339) (.ref 100), de P "assign" (nat_lit 342) (.ref 101), de P "masgn" (nat_lit 346) (.ref 102), de P "opasgn" (nat_lit 350) (.ref 103), de P "call" (nat_lit 355) (.ref 104), de P "vcall" (nat_lit 362) (.ref 105), de P "block" (nat_lit 365) (.ref 106), de P "blockpass" (nat_lit 369) (.ref 107), de P "and" (nat_lit 372) (.ref 108), de P "or" (nat_lit 376) (.ref 109)] 17), #[]⟩
noncomputable def o93 : Obj := ⟨.type "tuple", none, (.seq #[.str "name" (nat_lit 317)] 0), #[]⟩
noncomputable def o94 : Obj := ⟨.type "tuple", none, (.seq #[.str "name" (nat_lit 320)] 0), #[]⟩
noncomputable def o95 : Obj := ⟨.type "tuple", none, (.seq #[.str "name" (nat_lit 323)] 0), #[]⟩
noncomputable def o96 : Obj := ⟨.type "tuple", none, (.seq #[.str "name" (nat_lit 326)] 0), #[]⟩
noncomputable def o97 : Obj := ⟨.type "tuple", none, (.seq #[.str "receiver" (nat_lit 329), .str "args" (nat_lit 330)] 0), #[]⟩
noncomputable def o98 : Obj := ⟨.type "tuple", none, (.seq #[.str "receiver" (nat_lit 333), .str "name" (nat_lit 334)] 0), #[]⟩
noncomputable def o99 : Obj := ⟨.type "tuple", none, (.seq #[.str "target" (nat_lit 337)] 0), #[]⟩
noncomputable def o100 : Obj := ⟨.type "tuple", none, (.seq #[.str "targets" (nat_lit 340)] 0), #[]⟩
noncomputable def o101 : Obj := ⟨.type "tuple", none, (.seq #[.str "target" (nat_lit 343), .str "value" (nat_lit 344)] 0), #[]⟩
noncomputable def o102 : Obj := ⟨.type "tuple", none, (.seq #[.str "targets" (nat_lit 347), .str "value" (nat_lit 348)] 0), #[]⟩
noncomputable def o103 : Obj := ⟨.type "tuple", none, (.seq #[.str "target" (nat_lit 351), .str "op" (nat_lit 352), .str "value" (nat_lit 353)] 0), #[]⟩
noncomputable def o104 : Obj := ⟨.type "tuple", none, (.seq #[.str "receiver" (nat_lit 356), .str "name" (nat_lit 357), .str "args" (nat_lit 358), .str "block" (nat_lit 359), .str "safe" (nat_lit 360)] 0), #[]⟩
noncomputable def o105 : Obj := ⟨.type "tuple", none, (.seq #[.str "name" (nat_lit 363)] 0), #[]⟩
noncomputable def o106 : Obj := ⟨.type "tuple", none, (.seq #[.str "params" (nat_lit 366), .str "body" (nat_lit 367)] 0), #[]⟩
noncomputable def o107 : Obj := ⟨.type "tuple", none, (.seq #[.str "value" (nat_lit 370)] 0), #[]⟩
noncomputable def o108 : Obj := ⟨.type "tuple", none, (.seq #[.str "left" (nat_lit 373), .str "right" (nat_lit 374)] 0), #[]⟩
noncomputable def o109 : Obj := ⟨.type "tuple", none, (.seq #[.str "left" (nat_lit 377), .str "right" (nat_lit 378)] 0), #[]⟩
noncomputable def o110 (P : Params) : Obj := ⟨.type "dict", none, (.dict #[de P "not" (nat_lit 380) (.ref 111), de P "super" (nat_lit 383) (.ref 112), de P "yield" (nat_lit 387) (.ref 113), de P "lambda" (nat_lit 390) (.ref 114), de P "defined" (nat_lit 394) (.ref 115), de P "seq" (nat_lit 397) (.ref 116), de P "if" (nat_lit 400) (.ref 117), de P "while" (nat_lit 405) (.ref 118), de P "case" (nat_lit 410) (.ref 119), de P "casein" (nat_lit 415) (.ref 120), de P "matchp" (nat_lit 420) (.ref 121), de P "matchq" (nat_lit 424) (.ref 122), de P "begin" (nat_lit 428) (.ref 123), de P "break" (nat_lit 434) (.ref 124), de P "next" (nat_lit 437) (.ref 125), de P "return" (nat_lit 440) (.ref 126), de P "def" (nat_lit 443) (.ref 127)] 17), #[]⟩
noncomputable def o111 : Obj := ⟨.type "tuple", none, (.seq #[.str "value" (nat_lit 381)] 0), #[]⟩
noncomputable def o112 : Obj := ⟨.type "tuple", none, (.seq #[.str "args" (nat_lit 384), .str "block" (nat_lit 385)] 0), #[]⟩
noncomputable def o113 : Obj := ⟨.type "tuple", none, (.seq #[.str "args" (nat_lit 388)] 0), #[]⟩
noncomputable def o114 : Obj := ⟨.type "tuple", none, (.seq #[.str "params" (nat_lit 391), .str "body" (nat_lit 392)] 0), #[]⟩
noncomputable def o115 : Obj := ⟨.type "tuple", none, (.seq #[.str "value" (nat_lit 395)] 0), #[]⟩
noncomputable def o116 : Obj := ⟨.type "tuple", none, (.seq #[.str "items" (nat_lit 398)] 0), #[]⟩
noncomputable def o117 : Obj := ⟨.type "tuple", none, (.seq #[.str "test" (nat_lit 401), .str "yes" (nat_lit 402), .str "no" (nat_lit 403)] 0), #[]⟩
noncomputable def o118 : Obj := ⟨.type "tuple", none, (.seq #[.str "test" (nat_lit 406), .str "body" (nat_lit 407), .str "negate" (nat_lit 408)] 0), #[]⟩
noncomputable def o119 : Obj := ⟨.type "tuple", none, (.seq #[.str "subject" (nat_lit 411), .str "whens" (nat_lit 412), .str "other" (nat_lit 413)] 0), #[]⟩
noncomputable def o120 : Obj := ⟨.type "tuple", none, (.seq #[.str "subject" (nat_lit 416), .str "arms" (nat_lit 417), .str "other" (nat_lit 418)] 0), #[]⟩
noncomputable def o121 : Obj := ⟨.type "tuple", none, (.seq #[.str "value" (nat_lit 421), .str "pattern" (nat_lit 422)] 0), #[]⟩
noncomputable def o122 : Obj := ⟨.type "tuple", none, (.seq #[.str "value" (nat_lit 425), .str "pattern" (nat_lit 426)] 0), #[]⟩
noncomputable def o123 : Obj := ⟨.type "tuple", none, (.seq #[.str "body" (nat_lit 429), .str "rescues" (nat_lit 430), .str "other" (nat_lit 431), .str "ensure" (nat_lit 432)] 0), #[]⟩
noncomputable def o124 : Obj := ⟨.type "tuple", none, (.seq #[.str "value" (nat_lit 435)] 0), #[]⟩
noncomputable def o125 : Obj := ⟨.type "tuple", none, (.seq #[.str "value" (nat_lit 438)] 0), #[]⟩
noncomputable def o126 : Obj := ⟨.type "tuple", none, (.seq #[.str "value" (nat_lit 441)] 0), #[]⟩
noncomputable def o127 : Obj := ⟨.type "tuple", none, (.seq #[.str "singleton" (nat_lit 444), .str "name" (nat_lit 445), .str "params" (nat_lit 446), .str "body" (nat_lit 447)] 0), #[]⟩
noncomputable def o128 (P : Params) : Obj := ⟨.type "dict", none, (.dict #[de P "class" (nat_lit 449) (.ref 129), de P "module" (nat_lit 453) (.ref 130), de P "sclass" (nat_lit 456) (.ref 131), de P "alias" (nat_lit 459) (.ref 132), de P "undef" (nat_lit 462) (.ref 133), de P "p_value" (nat_lit 464) (.ref 134), de P "p_bind" (nat_lit 466) (.ref 135), de P "p_pin" (nat_lit 468) (.ref 136), de P "p_alt" (nat_lit 470) (.ref 137), de P "p_as" (nat_lit 472) (.ref 138), de P "p_array" (nat_lit 475) (.ref 139), de P "p_hash" (nat_lit 480) (.ref 140)] 12), #[]⟩
noncomputable def o129 : Obj := ⟨.type "tuple", none, (.seq #[.str "name" (nat_lit 450), .str "superclass" (nat_lit 451), .str "body" (nat_lit 452)] 0), #[]⟩
noncomputable def o130 : Obj := ⟨.type "tuple", none, (.seq #[.str "name" (nat_lit 454), .str "body" (nat_lit 455)] 0), #[]⟩
noncomputable def o131 : Obj := ⟨.type "tuple", none, (.seq #[.str "value" (nat_lit 457), .str "body" (nat_lit 458)] 0), #[]⟩
noncomputable def o132 : Obj := ⟨.type "tuple", none, (.seq #[.str "new" (nat_lit 460), .str "old" (nat_lit 461)] 0), #[]⟩
noncomputable def o133 : Obj := ⟨.type "tuple", none, (.seq #[.str "name" (nat_lit 463)] 0), #[]⟩
noncomputable def o134 : Obj := ⟨.type "tuple", none, (.seq #[.str "value" (nat_lit 465)] 0), #[]⟩
noncomputable def o135 : Obj := ⟨.type "tuple", none, (.seq #[.str "name" (nat_lit 467)] 0), #[]⟩
noncomputable def o136 : Obj := ⟨.type "tuple", none, (.seq #[.str "value" (nat_lit 469)] 0), #[]⟩
noncomputable def o137 : Obj := ⟨.type "tuple", none, (.seq #[.str "patterns" (nat_lit 471)] 0), #[]⟩
noncomputable def o138 : Obj := ⟨.type "tuple", none, (.seq #[.str "pattern" (nat_lit 473), .str "name" (nat_lit 474)] 0), #[]⟩
noncomputable def o139 : Obj := ⟨.type "tuple", none, (.seq #[.str "const" (nat_lit 476), .str "pre" (nat_lit 477), .str "rest" (nat_lit 478), .str "post" (nat_lit 479)] 0), #[]⟩
noncomputable def o140 : Obj := ⟨.type "tuple", none, (.seq #[.str "const" (nat_lit 481), .str "pairs" (nat_lit 482), .str "rest" (nat_lit 483)] 0), #[]⟩
noncomputable def o143 (P : Params) : Obj := ⟨.type "dict", none, (.dict #[de P "__module__" (nat_lit 504) (.str "gemrows.nodes" (nat_lit 265)), de P "__qualname__" (nat_lit 506) (.str "Node" (nat_lit 505)), de P "__firstlineno__" (nat_lit 508) (.int 19 (nat_lit 507)), de P "__init__" (nat_lit 519) (.ref 156), de P "part" (nat_lit 527) (.ref 163), de P "__static_attributes__" (nat_lit 532) (.ref 164)] 6), #[]⟩
noncomputable def o145 : Obj := ⟨.none, none, (.fields #[.int 21 0, .int 4 0, .ref 155, .int 29 0, .int 4 0, .ref 162]), #[]⟩
noncomputable def o146 : Obj := ⟨.type "code", none, (.fields #[.str "Node" (nat_lit 499), .str "Node" (nat_lit 500), .str "/claim/cut.py" (nat_lit 501), .int 19 0, .int 0 0, .int 0 0, .int 0 0, .int 0 0, .ref 144, .bool false, .int 181 0, .ref 145, .none, .none, .none, .none, .int 502 0, .int 19 0, .str "/claim/cut.py" (nat_lit 503)]), #[]⟩
noncomputable def o147 : Obj := ⟨.type "frame", none, .plain, #[some (.ref 146), some (.ref 3), some (.ref 143), none, some (.str "gemrows.nodes" (nat_lit 265)), none, some (.ref 0)]⟩
noncomputable def o149 : Obj := ⟨.type "tuple", none, (.seq #[.ref 148, .int 0 (nat_lit 509)] 0), #[]⟩
noncomputable def o152 : Obj := ⟨.type "tuple", none, (.seq #[.str "self" (nat_lit 513), .str "kind" (nat_lit 514), .str "parts" (nat_lit 515), .str "line" (nat_lit 516)] 0), #[]⟩
noncomputable def o155 : Obj := ⟨.type "code", none, (.fields #[.str "__init__" (nat_lit 510), .str "Node.__init__" (nat_lit 511), .str "/claim/cut.py" (nat_lit 512), .int 21 0, .int 4 0, .int 0 0, .int 0 0, .int 3 0, .ref 150, .bool true, .int 181 0, .ref 151, .none, .ref 152, .ref 153, .ref 154, .int 517 0, .int 21 0, .str "/claim/cut.py" (nat_lit 518)]), #[]⟩
noncomputable def o156 : Obj := fnL (sub 7 0) rfl "Node.__init__" (.ref 149) (.str "gemrows.nodes" (nat_lit 265)) (.ref 155)
noncomputable def o159 : Obj := ⟨.type "tuple", none, (.seq #[.str "self" (nat_lit 523), .str "name" (nat_lit 524)] 0), #[]⟩
noncomputable def o162 : Obj := ⟨.type "code", none, (.fields #[.str "part" (nat_lit 520), .str "Node.part" (nat_lit 521), .str "/claim/cut.py" (nat_lit 522), .int 29 0, .int 2 0, .int 0 0, .int 0 0, .int 3 0, .ref 157, .bool true, .int 181 0, .ref 158, .none, .ref 159, .ref 160, .ref 161, .int 525 0, .int 29 0, .str "/claim/cut.py" (nat_lit 526)]), #[]⟩
noncomputable def o163 : Obj := fnL (sub 7 1) rfl "Node.part" .none (.str "gemrows.nodes" (nat_lit 265)) (.ref 162)
noncomputable def o164 : Obj := ⟨.type "tuple", none, (.seq #[.str "kind" (nat_lit 528), .str "line" (nat_lit 529), .str "own" (nat_lit 530), .str "parts" (nat_lit 531)] 0), #[]⟩
noncomputable def o165 (P : Params) : Obj := ⟨.type "dict", none, (.dict #[de P "__module__" (nat_lit 504) (.str "gemrows.nodes" (nat_lit 265)), de P "__firstlineno__" (nat_lit 508) (.int 19 (nat_lit 507)), de P "__init__" (nat_lit 519) (.ref 156), de P "part" (nat_lit 527) (.ref 163), de P "__static_attributes__" (nat_lit 532) (.ref 164), de P "__dict__" (nat_lit 534) (.ref 167), de P "__weakref__" (nat_lit 536) (.ref 168), de P "__doc__" (nat_lit 537) .none] 4), #[]⟩
noncomputable def o166 : Obj := ⟨.type "type", none, (.cls ⟨"Node", [.type "object"], [.ref 166, .type "object"], 165, "Node", true, [], [], false, none, false⟩), #[none, none, some (.str "Node" (nat_lit 497)), some (.str "Node" (nat_lit 505)), some (.builtin "object.__new__"), some (.bool true)]⟩
noncomputable def o167 : Obj := ⟨.type "getset_descriptor", none, (.fields #[.str "__dict__" (nat_lit 533), .ref 166, .builtin "function.__dict__", .builtin "function.__dict__#set"]), #[]⟩
noncomputable def o168 : Obj := ⟨.type "getset_descriptor", none, (.fields #[.str "__weakref__" (nat_lit 535), .ref 166, .builtin "ExceptionGroup.__weakref__", .none]), #[]⟩
noncomputable def o169 : Obj := ⟨.type "super", none, (.fields #[.ref 166, .ref 166, .ref 166]), #[]⟩
noncomputable def o170 : Obj := ⟨.type "builtin_function_or_method", none, (.fields #[.builtin "object.__init_subclass__", .ref 166]), #[]⟩
noncomputable def o173 (P : Params) : Obj := ⟨.type "dict", none, (.dict #[de P "__module__" (nat_lit 547) (.str "gemrows.nodes" (nat_lit 265)), de P "__qualname__" (nat_lit 549) (.str "Params" (nat_lit 548)), de P "__firstlineno__" (nat_lit 551) (.int 31 (nat_lit 550)), de P "__init__" (nat_lit 563) (.ref 188), de P "plain" (nat_lit 570) (.ref 195), de P "__static_attributes__" (nat_lit 576) (.ref 196)] 6), #[]⟩
noncomputable def o175 : Obj := ⟨.none, none, (.fields #[.int 33 0, .int 4 0, .ref 187, .int 40 0, .int 4 0, .ref 194]), #[]⟩
noncomputable def o176 : Obj := ⟨.type "code", none, (.fields #[.str "Params" (nat_lit 542), .str "Params" (nat_lit 543), .str "/claim/cut.py" (nat_lit 544), .int 31 0, .int 0 0, .int 0 0, .int 0 0, .int 0 0, .ref 174, .bool false, .int 181 0, .ref 175, .none, .none, .none, .none, .int 545 0, .int 31 0, .str "/claim/cut.py" (nat_lit 546)]), #[]⟩
noncomputable def o177 : Obj := ⟨.type "frame", none, .plain, #[some (.ref 176), some (.ref 3), some (.ref 173), none, some (.str "gemrows.nodes" (nat_lit 265)), none, some (.ref 0)]⟩
noncomputable def o181 : Obj := ⟨.type "tuple", none, (.seq #[.ref 178, .ref 179, .none, .ref 180, .none] 0), #[]⟩
noncomputable def o184 : Obj := ⟨.type "tuple", none, (.seq #[.str "self" (nat_lit 555), .str "required" (nat_lit 556), .str "optional" (nat_lit 557), .str "rest" (nat_lit 558), .str "post" (nat_lit 559), .str "block" (nat_lit 560)] 0), #[]⟩
noncomputable def o187 : Obj := ⟨.type "code", none, (.fields #[.str "__init__" (nat_lit 552), .str "Params.__init__" (nat_lit 553), .str "/claim/cut.py" (nat_lit 554), .int 33 0, .int 6 0, .int 0 0, .int 0 0, .int 3 0, .ref 182, .bool true, .int 181 0, .ref 183, .none, .ref 184, .ref 185, .ref 186, .int 561 0, .int 33 0, .str "/claim/cut.py" (nat_lit 562)]), #[]⟩
noncomputable def o188 : Obj := fnL (sub 8 0) rfl "Params.__init__" (.ref 181) (.str "gemrows.nodes" (nat_lit 265)) (.ref 187)
noncomputable def o191 : Obj := ⟨.type "tuple", none, (.seq #[.str "self" (nat_lit 567)] 0), #[]⟩
noncomputable def o194 : Obj := ⟨.type "code", none, (.fields #[.str "plain" (nat_lit 564), .str "Params.plain" (nat_lit 565), .str "/claim/cut.py" (nat_lit 566), .int 40 0, .int 1 0, .int 0 0, .int 0 0, .int 3 0, .ref 189, .bool true, .int 181 0, .ref 190, .none, .ref 191, .ref 192, .ref 193, .int 568 0, .int 40 0, .str "/claim/cut.py" (nat_lit 569)]), #[]⟩
noncomputable def o195 : Obj := fnL (sub 8 1) rfl "Params.plain" .none (.str "gemrows.nodes" (nat_lit 265)) (.ref 194)
noncomputable def o196 : Obj := ⟨.type "tuple", none, (.seq #[.str "block" (nat_lit 571), .str "optional" (nat_lit 572), .str "post" (nat_lit 573), .str "required" (nat_lit 574), .str "rest" (nat_lit 575)] 0), #[]⟩
noncomputable def o197 (P : Params) : Obj := ⟨.type "dict", none, (.dict #[de P "__module__" (nat_lit 547) (.str "gemrows.nodes" (nat_lit 265)), de P "__firstlineno__" (nat_lit 551) (.int 31 (nat_lit 550)), de P "__init__" (nat_lit 563) (.ref 188), de P "plain" (nat_lit 570) (.ref 195), de P "__static_attributes__" (nat_lit 576) (.ref 196), de P "__dict__" (nat_lit 578) (.ref 199), de P "__weakref__" (nat_lit 580) (.ref 200), de P "__doc__" (nat_lit 581) .none] 4), #[]⟩
noncomputable def o198 : Obj := ⟨.type "type", none, (.cls ⟨"Params", [.type "object"], [.ref 198, .type "object"], 197, "Params", true, [], [], false, none, false⟩), #[none, none, some (.str "Params" (nat_lit 540)), some (.str "Params" (nat_lit 548)), some (.builtin "object.__new__"), some (.bool true)]⟩
noncomputable def o199 : Obj := ⟨.type "getset_descriptor", none, (.fields #[.str "__dict__" (nat_lit 577), .ref 198, .builtin "function.__dict__", .builtin "function.__dict__#set"]), #[]⟩
noncomputable def o200 : Obj := ⟨.type "getset_descriptor", none, (.fields #[.str "__weakref__" (nat_lit 579), .ref 198, .builtin "ExceptionGroup.__weakref__", .none]), #[]⟩
noncomputable def o201 : Obj := ⟨.type "super", none, (.fields #[.ref 198, .ref 198, .ref 198]), #[]⟩
noncomputable def o202 : Obj := ⟨.type "builtin_function_or_method", none, (.fields #[.builtin "object.__init_subclass__", .ref 198]), #[]⟩
noncomputable def o205 (P : Params) : Obj := ⟨.type "dict", none, (.dict #[de P "__module__" (nat_lit 597) (.str "gemrows.things" (nat_lit 584)), de P "__qualname__" (nat_lit 599) (.str "Thing" (nat_lit 598)), de P "__firstlineno__" (nat_lit 601) (.int 45 (nat_lit 600)), de P "__init__" (nat_lit 610) (.ref 216), de P "__static_attributes__" (nat_lit 617) (.ref 217)] 5), #[]⟩
noncomputable def o207 : Obj := ⟨.none, none, (.fields #[.int 47 0, .int 4 0, .ref 215]), #[]⟩
noncomputable def o208 : Obj := ⟨.type "code", none, (.fields #[.str "Thing" (nat_lit 592), .str "Thing" (nat_lit 593), .str "/claim/cut.py" (nat_lit 594), .int 45 0, .int 0 0, .int 0 0, .int 0 0, .int 0 0, .ref 206, .bool false, .int 181 0, .ref 207, .none, .none, .none, .none, .int 595 0, .int 45 0, .str "/claim/cut.py" (nat_lit 596)]), #[]⟩
noncomputable def o209 : Obj := ⟨.type "frame", none, .plain, #[some (.ref 208), some (.ref 3), some (.ref 205), none, some (.str "gemrows.things" (nat_lit 584)), none, some (.ref 0)]⟩
noncomputable def o212 : Obj := ⟨.type "tuple", none, (.seq #[.str "self" (nat_lit 605), .str "number" (nat_lit 606), .str "owner" (nat_lit 607)] 0), #[]⟩
noncomputable def o215 : Obj := ⟨.type "code", none, (.fields #[.str "__init__" (nat_lit 602), .str "Thing.__init__" (nat_lit 603), .str "/claim/cut.py" (nat_lit 604), .int 47 0, .int 3 0, .int 0 0, .int 0 0, .int 3 0, .ref 210, .bool true, .int 181 0, .ref 211, .none, .ref 212, .ref 213, .ref 214, .int 608 0, .int 47 0, .str "/claim/cut.py" (nat_lit 609)]), #[]⟩
noncomputable def o216 : Obj := fnL (sub 12 0) rfl "Thing.__init__" .none (.str "gemrows.things" (nat_lit 584)) (.ref 215)
noncomputable def o217 : Obj := ⟨.type "tuple", none, (.seq #[.str "fields" (nat_lit 611), .str "frozen" (nat_lit 612), .str "ident" (nat_lit 613), .str "number" (nat_lit 614), .str "own" (nat_lit 615), .str "owner" (nat_lit 616)] 0), #[]⟩
noncomputable def o218 (P : Params) : Obj := ⟨.type "dict", none, (.dict #[de P "__module__" (nat_lit 597) (.str "gemrows.things" (nat_lit 584)), de P "__firstlineno__" (nat_lit 601) (.int 45 (nat_lit 600)), de P "__init__" (nat_lit 610) (.ref 216), de P "__static_attributes__" (nat_lit 617) (.ref 217), de P "__dict__" (nat_lit 619) (.ref 220), de P "__weakref__" (nat_lit 621) (.ref 221), de P "__doc__" (nat_lit 622) .none] 4), #[]⟩
noncomputable def o219 : Obj := ⟨.type "type", none, (.cls ⟨"Thing", [.type "object"], [.ref 219, .type "object"], 218, "Thing", true, [], [.ref 241, .ref 261, .ref 299, .ref 319, .ref 340, .ref 360, .ref 380, .ref 407], false, none, false⟩), #[none, none, some (.str "Thing" (nat_lit 590)), some (.str "Thing" (nat_lit 598)), some (.builtin "object.__new__"), some (.bool true)]⟩
noncomputable def o220 : Obj := ⟨.type "getset_descriptor", none, (.fields #[.str "__dict__" (nat_lit 618), .ref 219, .builtin "function.__dict__", .builtin "function.__dict__#set"]), #[]⟩
noncomputable def o221 : Obj := ⟨.type "getset_descriptor", none, (.fields #[.str "__weakref__" (nat_lit 620), .ref 219, .builtin "ExceptionGroup.__weakref__", .none]), #[]⟩
noncomputable def o222 : Obj := ⟨.type "super", none, (.fields #[.ref 219, .ref 219, .ref 219]), #[]⟩
noncomputable def o223 : Obj := ⟨.type "builtin_function_or_method", none, (.fields #[.builtin "object.__init_subclass__", .ref 219]), #[]⟩
noncomputable def o224 : Obj := ⟨.type "tuple", none, (.seq #[.ref 219] 0), #[]⟩
noncomputable def o226 (P : Params) : Obj := ⟨.type "dict", none, (.dict #[de P "__module__" (nat_lit 632) (.str "gemrows.things" (nat_lit 584)), de P "__qualname__" (nat_lit 634) (.str "Text" (nat_lit 633)), de P "__firstlineno__" (nat_lit 636) (.int 54 (nat_lit 635)), de P "__init__" (nat_lit 647) (.ref 238), de P "__static_attributes__" (nat_lit 649) (.ref 239)] 5), #[]⟩
noncomputable def o228 : Obj := ⟨.none, none, (.fields #[.int 56 0, .int 4 0, .ref 237]), #[]⟩
noncomputable def o229 : Obj := ⟨.type "code", none, (.fields #[.str "Text" (nat_lit 627), .str "Text" (nat_lit 628), .str "/claim/cut.py" (nat_lit 629), .int 54 0, .int 0 0, .int 0 0, .int 0 0, .int 0 0, .ref 227, .bool false, .int 181 0, .ref 228, .none, .none, .none, .none, .int 630 0, .int 54 0, .str "/claim/cut.py" (nat_lit 631)]), #[]⟩
noncomputable def o230 : Obj := ⟨.type "frame", none, .plain, #[some (.ref 229), some (.ref 3), some (.ref 226), none, some (.str "gemrows.things" (nat_lit 584)), none, some (.ref 0)]⟩
noncomputable def o231 : Obj := ⟨.type "tuple", none, (.seq #[.str "" (nat_lit 637)] 0), #[]⟩
noncomputable def o234 : Obj := ⟨.type "tuple", none, (.seq #[.str "self" (nat_lit 641), .str "number" (nat_lit 642), .str "owner" (nat_lit 643), .str "text" (nat_lit 644)] 0), #[]⟩
noncomputable def o237 : Obj := ⟨.type "code", none, (.fields #[.str "__init__" (nat_lit 638), .str "Text.__init__" (nat_lit 639), .str "/claim/cut.py" (nat_lit 640), .int 56 0, .int 4 0, .int 0 0, .int 0 0, .int 3 0, .ref 232, .bool true, .int 181 0, .ref 233, .none, .ref 234, .ref 235, .ref 236, .int 645 0, .int 56 0, .str "/claim/cut.py" (nat_lit 646)]), #[]⟩
noncomputable def o238 : Obj := fnL (sub 13 0) rfl "Text.__init__" (.ref 231) (.str "gemrows.things" (nat_lit 584)) (.ref 237)
noncomputable def o239 : Obj := ⟨.type "tuple", none, (.seq #[.str "text" (nat_lit 648)] 0), #[]⟩
noncomputable def o240 (P : Params) : Obj := ⟨.type "dict", none, (.dict #[de P "__module__" (nat_lit 632) (.str "gemrows.things" (nat_lit 584)), de P "__firstlineno__" (nat_lit 636) (.int 54 (nat_lit 635)), de P "__init__" (nat_lit 647) (.ref 238), de P "__static_attributes__" (nat_lit 649) (.ref 239), de P "__doc__" (nat_lit 650) .none] 2), #[]⟩
noncomputable def o241 : Obj := ⟨.type "type", none, (.cls ⟨"Text", [.ref 219], [.ref 241, .ref 219, .type "object"], 240, "Text", true, [], [], false, none, false⟩), #[some (.ref 224), none, some (.str "Text" (nat_lit 625)), some (.str "Text" (nat_lit 633)), some (.builtin "object.__new__"), some (.bool true)]⟩
noncomputable def o242 : Obj := ⟨.type "super", none, (.fields #[.ref 241, .ref 241, .ref 241]), #[]⟩
noncomputable def o243 : Obj := ⟨.type "builtin_function_or_method", none, (.fields #[.builtin "object.__init_subclass__", .ref 241]), #[]⟩
noncomputable def o246 (P : Params) : Obj := ⟨.type "dict", none, (.dict #[de P "__module__" (nat_lit 660) (.str "gemrows.things" (nat_lit 584)), de P "__qualname__" (nat_lit 662) (.str "ListThing" (nat_lit 661)), de P "__firstlineno__" (nat_lit 664) (.int 59 (nat_lit 663)), de P "__init__" (nat_lit 674) (.ref 258), de P "__static_attributes__" (nat_lit 676) (.ref 259)] 5), #[]⟩
noncomputable def o248 : Obj := ⟨.none, none, (.fields #[.int 61 0, .int 4 0, .ref 257]), #[]⟩
noncomputable def o249 : Obj := ⟨.type "code", none, (.fields #[.str "ListThing" (nat_lit 655), .str "ListThing" (nat_lit 656), .str "/claim/cut.py" (nat_lit 657), .int 59 0, .int 0 0, .int 0 0, .int 0 0, .int 0 0, .ref 247, .bool false, .int 181 0, .ref 248, .none, .none, .none, .none, .int 658 0, .int 59 0, .str "/claim/cut.py" (nat_lit 659)]), #[]⟩
noncomputable def o250 : Obj := ⟨.type "frame", none, .plain, #[some (.ref 249), some (.ref 3), some (.ref 246), none, some (.str "gemrows.things" (nat_lit 584)), none, some (.ref 0)]⟩
noncomputable def o251 : Obj := ⟨.type "tuple", none, (.seq #[.none] 0), #[]⟩
noncomputable def o254 : Obj := ⟨.type "tuple", none, (.seq #[.str "self" (nat_lit 668), .str "number" (nat_lit 669), .str "owner" (nat_lit 670), .str "items" (nat_lit 671)] 0), #[]⟩
noncomputable def o257 : Obj := ⟨.type "code", none, (.fields #[.str "__init__" (nat_lit 665), .str "ListThing.__init__" (nat_lit 666), .str "/claim/cut.py" (nat_lit 667), .int 61 0, .int 4 0, .int 0 0, .int 0 0, .int 3 0, .ref 252, .bool true, .int 181 0, .ref 253, .none, .ref 254, .ref 255, .ref 256, .int 672 0, .int 61 0, .str "/claim/cut.py" (nat_lit 673)]), #[]⟩
noncomputable def o258 : Obj := fnL (sub 14 0) rfl "ListThing.__init__" (.ref 251) (.str "gemrows.things" (nat_lit 584)) (.ref 257)
noncomputable def o259 : Obj := ⟨.type "tuple", none, (.seq #[.str "items" (nat_lit 675)] 0), #[]⟩
noncomputable def o260 (P : Params) : Obj := ⟨.type "dict", none, (.dict #[de P "__module__" (nat_lit 660) (.str "gemrows.things" (nat_lit 584)), de P "__firstlineno__" (nat_lit 664) (.int 59 (nat_lit 663)), de P "__init__" (nat_lit 674) (.ref 258), de P "__static_attributes__" (nat_lit 676) (.ref 259), de P "__doc__" (nat_lit 677) .none] 2), #[]⟩
noncomputable def o261 : Obj := ⟨.type "type", none, (.cls ⟨"ListThing", [.ref 219], [.ref 261, .ref 219, .type "object"], 260, "ListThing", true, [], [], false, none, false⟩), #[some (.ref 244), none, some (.str "ListThing" (nat_lit 653)), some (.str "ListThing" (nat_lit 661)), some (.builtin "object.__new__"), some (.bool true)]⟩
noncomputable def o262 : Obj := ⟨.type "super", none, (.fields #[.ref 261, .ref 261, .ref 261]), #[]⟩
noncomputable def o263 : Obj := ⟨.type "builtin_function_or_method", none, (.fields #[.builtin "object.__init_subclass__", .ref 261]), #[]⟩
noncomputable def o266 (P : Params) : Obj := ⟨.type "dict", none, (.dict #[de P "__module__" (nat_lit 687) (.str "gemrows.things" (nat_lit 584)), de P "__qualname__" (nat_lit 689) (.str "TableThing" (nat_lit 688)), de P "__firstlineno__" (nat_lit 691) (.int 64 (nat_lit 690)), de P "__init__" (nat_lit 700) (.ref 277), de P "put" (nat_lit 709) (.ref 284), de P "row" (nat_lit 717) (.ref 291), de P "pairs" (nat_lit 723) (.ref 296), de P "__static_attributes__" (nat_lit 726) (.ref 297)] 8), #[]⟩
noncomputable def o268 : Obj := ⟨.none, none, (.fields #[.int 66 0, .int 4 0, .ref 276, .int 71 0, .int 4 0, .ref 283, .int 74 0, .int 4 0, .ref 290, .int 77 0, .int 4 0, .ref 295]), #[]⟩
noncomputable def o269 : Obj := ⟨.type "code", none, (.fields #[.str "TableThing" (nat_lit 682), .str "TableThing" (nat_lit 683), .str "/claim/cut.py" (nat_lit 684), .int 64 0, .int 0 0, .int 0 0, .int 0 0, .int 0 0, .ref 267, .bool false, .int 181 0, .ref 268, .none, .none, .none, .none, .int 685 0, .int 64 0, .str "/claim/cut.py" (nat_lit 686)]), #[]⟩
noncomputable def o270 : Obj := ⟨.type "frame", none, .plain, #[some (.ref 269), some (.ref 3), some (.ref 266), none, some (.str "gemrows.things" (nat_lit 584)), none, some (.ref 0)]⟩
noncomputable def o273 : Obj := ⟨.type "tuple", none, (.seq #[.str "self" (nat_lit 695), .str "number" (nat_lit 696), .str "owner" (nat_lit 697)] 0), #[]⟩
noncomputable def o276 : Obj := ⟨.type "code", none, (.fields #[.str "__init__" (nat_lit 692), .str "TableThing.__init__" (nat_lit 693), .str "/claim/cut.py" (nat_lit 694), .int 66 0, .int 3 0, .int 0 0, .int 0 0, .int 3 0, .ref 271, .bool true, .int 181 0, .ref 272, .none, .ref 273, .ref 274, .ref 275, .int 698 0, .int 66 0, .str "/claim/cut.py" (nat_lit 699)]), #[]⟩
noncomputable def o277 : Obj := fnL (sub 15 0) rfl "TableThing.__init__" .none (.str "gemrows.things" (nat_lit 584)) (.ref 276)
noncomputable def o280 : Obj := ⟨.type "tuple", none, (.seq #[.str "self" (nat_lit 704), .str "key" (nat_lit 705), .str "value" (nat_lit 706)] 0), #[]⟩
noncomputable def o283 : Obj := ⟨.type "code", none, (.fields #[.str "put" (nat_lit 701), .str "TableThing.put" (nat_lit 702), .str "/claim/cut.py" (nat_lit 703), .int 71 0, .int 3 0, .int 0 0, .int 0 0, .int 3 0, .ref 278, .bool true, .int 181 0, .ref 279, .none, .ref 280, .ref 281, .ref 282, .int 707 0, .int 71 0, .str "/claim/cut.py" (nat_lit 708)]), #[]⟩
noncomputable def o284 : Obj := fnL (sub 15 1) rfl "TableThing.put" .none (.str "gemrows.things" (nat_lit 584)) (.ref 283)
noncomputable def o287 : Obj := ⟨.type "tuple", none, (.seq #[.str "self" (nat_lit 713), .str "key" (nat_lit 714)] 0), #[]⟩
noncomputable def o290 : Obj := ⟨.type "code", none, (.fields #[.str "row" (nat_lit 710), .str "TableThing.row" (nat_lit 711), .str "/claim/cut.py" (nat_lit 712), .int 74 0, .int 2 0, .int 0 0, .int 0 0, .int 3 0, .ref 285, .bool true, .int 181 0, .ref 286, .none, .ref 287, .ref 288, .ref 289, .int 715 0, .int 74 0, .str "/claim/cut.py" (nat_lit 716)]), #[]⟩
noncomputable def o291 : Obj := fnL (sub 15 2) rfl "TableThing.row" .none (.str "gemrows.things" (nat_lit 584)) (.ref 290)
noncomputable def o295 : Obj := ⟨.type "code", none, (.fields #[.str "pairs" (nat_lit 718), .str "TableThing.pairs" (nat_lit 719), .str "/claim/cut.py" (nat_lit 720), .int 77 0, .int 1 0, .int 0 0, .int 0 0, .int 3 0, .ref 292, .bool true, .int 181 0, .ref 293, .none, .none, .none, .ref 294, .int 721 0, .int 77 0, .str "/claim/cut.py" (nat_lit 722)]), #[]⟩
noncomputable def o296 : Obj := fnL (sub 15 3) rfl "TableThing.pairs" .none (.str "gemrows.things" (nat_lit 584)) (.ref 295)
noncomputable def o297 : Obj := ⟨.type "tuple", none, (.seq #[.str "rows" (nat_lit 724), .str "spare" (nat_lit 725)] 0), #[]⟩
noncomputable def o298 (P : Params) : Obj := ⟨.type "dict", none, (.dict #[de P "__module__" (nat_lit 687) (.str "gemrows.things" (nat_lit 584)), de P "__firstlineno__" (nat_lit 691) (.int 64 (nat_lit 690)), de P "__init__" (nat_lit 700) (.ref 277), de P "put" (nat_lit 709) (.ref 284), de P "row" (nat_lit 717) (.ref 291), de P "pairs" (nat_lit 723) (.ref 296), de P "__static_attributes__" (nat_lit 726) (.ref 297), de P "__doc__" (nat_lit 727) .none] 2), #[]⟩
noncomputable def o299 : Obj := ⟨.type "type", none, (.cls ⟨"TableThing", [.ref 219], [.ref 299, .ref 219, .type "object"], 298, "TableThing", true, [], [], false, none, false⟩), #[some (.ref 264), none, some (.str "TableThing" (nat_lit 680)), some (.str "TableThing" (nat_lit 688)), some (.builtin "object.__new__"), some (.bool true)]⟩
noncomputable def o300 : Obj := ⟨.type "super", none, (.fields #[.ref 299, .ref 299, .ref 299]), #[]⟩
noncomputable def o301 : Obj := ⟨.type "builtin_function_or_method", none, (.fields #[.builtin "object.__init_subclass__", .ref 299]), #[]⟩
noncomputable def o304 (P : Params) : Obj := ⟨.type "dict", none, (.dict #[de P "__module__" (nat_lit 737) (.str "gemrows.things" (nat_lit 584)), de P "__qualname__" (nat_lit 739) (.str "RangeThing" (nat_lit 738)), de P "__firstlineno__" (nat_lit 741) (.int 79 (nat_lit 740)), de P "__init__" (nat_lit 753) (.ref 316), de P "__static_attributes__" (nat_lit 757) (.ref 317)] 5), #[]⟩
noncomputable def o306 : Obj := ⟨.none, none, (.fields #[.int 81 0, .int 4 0, .ref 315]), #[]⟩
noncomputable def o307 : Obj := ⟨.type "code", none, (.fields #[.str "RangeThing" (nat_lit 732), .str "RangeThing" (nat_lit 733), .str "/claim/cut.py" (nat_lit 734), .int 79 0, .int 0 0, .int 0 0, .int 0 0, .int 0 0, .ref 305, .bool false, .int 181 0, .ref 306, .none, .none, .none, .none, .int 735 0, .int 79 0, .str "/claim/cut.py" (nat_lit 736)]), #[]⟩
noncomputable def o308 : Obj := ⟨.type "frame", none, .plain, #[some (.ref 307), some (.ref 3), some (.ref 304), none, some (.str "gemrows.things" (nat_lit 584)), none, some (.ref 0)]⟩
noncomputable def o309 : Obj := ⟨.type "tuple", none, (.seq #[.none, .none, .bool false] 0), #[]⟩
noncomputable def o312 : Obj := ⟨.type "tuple", none, (.seq #[.str "self" (nat_lit 745), .str "number" (nat_lit 746), .str "owner" (nat_lit 747), .str "first" (nat_lit 748), .str "last" (nat_lit 749), .str "is_open" (nat_lit 750)] 0), #[]⟩
noncomputable def o315 : Obj := ⟨.type "code", none, (.fields #[.str "__init__" (nat_lit 742), .str "RangeThing.__init__" (nat_lit 743), .str "/claim/cut.py" (nat_lit 744), .int 81 0, .int 6 0, .int 0 0, .int 0 0, .int 3 0, .ref 310, .bool true, .int 181 0, .ref 311, .none, .ref 312, .ref 313, .ref 314, .int 751 0, .int 81 0, .str "/claim/cut.py" (nat_lit 752)]), #[]⟩
noncomputable def o316 : Obj := fnL (sub 16 0) rfl "RangeThing.__init__" (.ref 309) (.str "gemrows.things" (nat_lit 584)) (.ref 315)
noncomputable def o317 : Obj := ⟨.type "tuple", none, (.seq #[.str "first" (nat_lit 754), .str "last" (nat_lit 755), .str "open" (nat_lit 756)] 0), #[]⟩
noncomputable def o318 (P : Params) : Obj := ⟨.type "dict", none, (.dict #[de P "__module__" (nat_lit 737) (.str "gemrows.things" (nat_lit 584)), de P "__firstlineno__" (nat_lit 741) (.int 79 (nat_lit 740)), de P "__init__" (nat_lit 753) (.ref 316), de P "__static_attributes__" (nat_lit 757) (.ref 317), de P "__doc__" (nat_lit 758) .none] 2), #[]⟩
noncomputable def o319 : Obj := ⟨.type "type", none, (.cls ⟨"RangeThing", [.ref 219], [.ref 319, .ref 219, .type "object"], 318, "RangeThing", true, [], [], false, none, false⟩), #[some (.ref 302), none, some (.str "RangeThing" (nat_lit 730)), some (.str "RangeThing" (nat_lit 738)), some (.builtin "object.__new__"), some (.bool true)]⟩
noncomputable def o320 : Obj := ⟨.type "super", none, (.fields #[.ref 319, .ref 319, .ref 319]), #[]⟩
noncomputable def o321 : Obj := ⟨.type "builtin_function_or_method", none, (.fields #[.builtin "object.__init_subclass__", .ref 319]), #[]⟩
noncomputable def o324 (P : Params) : Obj := ⟨.type "dict", none, (.dict #[de P "__module__" (nat_lit 768) (.str "gemrows.things" (nat_lit 584)), de P "__qualname__" (nat_lit 770) (.str "ProcThing" (nat_lit 769)), de P "__firstlineno__" (nat_lit 772) (.int 86 (nat_lit 771)), de P "__init__" (nat_lit 790) (.ref 337), de P "__static_attributes__" (nat_lit 800) (.ref 338)] 5), #[]⟩
noncomputable def o326 : Obj := ⟨.none, none, (.fields #[.int 88 0, .int 4 0, .ref 336]), #[]⟩
noncomputable def o327 : Obj := ⟨.type "code", none, (.fields #[.str "ProcThing" (nat_lit 763), .str "ProcThing" (nat_lit 764), .str "/claim/cut.py" (nat_lit 765), .int 86 0, .int 0 0, .int 0 0, .int 0 0, .int 0 0, .ref 325, .bool false, .int 181 0, .ref 326, .none, .none, .none, .none, .int 766 0, .int 86 0, .str "/claim/cut.py" (nat_lit 767)]), #[]⟩
noncomputable def o328 : Obj := ⟨.type "frame", none, .plain, #[some (.ref 327), some (.ref 3), some (.ref 324), none, some (.str "gemrows.things" (nat_lit 584)), none, some (.ref 0)]⟩
noncomputable def o330 : Obj := ⟨.type "tuple", none, (.seq #[.none, .none, .none, .none, .ref 329, .none, .none, .bool false, .none] 0), #[]⟩
noncomputable def o333 : Obj := ⟨.type "tuple", none, (.seq #[.str "self" (nat_lit 776), .str "number" (nat_lit 777), .str "owner" (nat_lit 778), .str "params" (nat_lit 779), .str "body" (nat_lit 780), .str "env" (nat_lit 781), .str "self_value" (nat_lit 782), .str "nesting" (nat_lit 783), .str "home" (nat_lit 784), .str "site" (nat_lit 785), .str "is_lambda" (nat_lit 786), .str "definer" (nat_lit 787)] 0), #[]⟩
noncomputable def o336 : Obj := ⟨.type "code", none, (.fields #[.str "__init__" (nat_lit 773), .str "ProcThing.__init__" (nat_lit 774), .str "/claim/cut.py" (nat_lit 775), .int 88 0, .int 12 0, .int 0 0, .int 0 0, .int 3 0, .ref 331, .bool true, .int 181 0, .ref 332, .none, .ref 333, .ref 334, .ref 335, .int 788 0, .int 88 0, .str "/claim/cut.py" (nat_lit 789)]), #[]⟩
noncomputable def o337 : Obj := fnL (sub 17 0) rfl "ProcThing.__init__" (.ref 330) (.str "gemrows.things" (nat_lit 584)) (.ref 336)
noncomputable def o338 : Obj := ⟨.type "tuple", none, (.seq #[.str "body" (nat_lit 791), .str "definer" (nat_lit 792), .str "env" (nat_lit 793), .str "home" (nat_lit 794), .str "is_lambda" (nat_lit 795), .str "nesting" (nat_lit 796), .str "params" (nat_lit 797), .str "self_value" (nat_lit 798), .str "site" (nat_lit 799)] 0), #[]⟩
noncomputable def o339 (P : Params) : Obj := ⟨.type "dict", none, (.dict #[de P "__module__" (nat_lit 768) (.str "gemrows.things" (nat_lit 584)), de P "__firstlineno__" (nat_lit 772) (.int 86 (nat_lit 771)), de P "__init__" (nat_lit 790) (.ref 337), de P "__static_attributes__" (nat_lit 800) (.ref 338), de P "__doc__" (nat_lit 801) .none] 2), #[]⟩
noncomputable def o340 : Obj := ⟨.type "type", none, (.cls ⟨"ProcThing", [.ref 219], [.ref 340, .ref 219, .type "object"], 339, "ProcThing", true, [], [], false, none, false⟩), #[some (.ref 322), none, some (.str "ProcThing" (nat_lit 761)), some (.str "ProcThing" (nat_lit 769)), some (.builtin "object.__new__"), some (.bool true)]⟩
noncomputable def o341 : Obj := ⟨.type "super", none, (.fields #[.ref 340, .ref 340, .ref 340]), #[]⟩
noncomputable def o342 : Obj := ⟨.type "builtin_function_or_method", none, (.fields #[.builtin "object.__init_subclass__", .ref 340]), #[]⟩
noncomputable def o345 (P : Params) : Obj := ⟨.type "dict", none, (.dict #[de P "__module__" (nat_lit 811) (.str "gemrows.things" (nat_lit 584)), de P "__qualname__" (nat_lit 813) (.str "ErrorThing" (nat_lit 812)), de P "__firstlineno__" (nat_lit 815) (.int 99 (nat_lit 814)), de P "__init__" (nat_lit 825) (.ref 357), de P "__static_attributes__" (nat_lit 828) (.ref 358)] 5), #[]⟩
noncomputable def o347 : Obj := ⟨.none, none, (.fields #[.int 101 0, .int 4 0, .ref 356]), #[]⟩
noncomputable def o348 : Obj := ⟨.type "code", none, (.fields #[.str "ErrorThing" (nat_lit 806), .str "ErrorThing" (nat_lit 807), .str "/claim/cut.py" (nat_lit 808), .int 99 0, .int 0 0, .int 0 0, .int 0 0, .int 0 0, .ref 346, .bool false, .int 181 0, .ref 347, .none, .none, .none, .none, .int 809 0, .int 99 0, .str "/claim/cut.py" (nat_lit 810)]), #[]⟩
noncomputable def o349 : Obj := ⟨.type "frame", none, .plain, #[some (.ref 348), some (.ref 3), some (.ref 345), none, some (.str "gemrows.things" (nat_lit 584)), none, some (.ref 0)]⟩
noncomputable def o353 : Obj := ⟨.type "tuple", none, (.seq #[.str "self" (nat_lit 819), .str "number" (nat_lit 820), .str "owner" (nat_lit 821), .str "message" (nat_lit 822)] 0), #[]⟩
noncomputable def o356 : Obj := ⟨.type "code", none, (.fields #[.str "__init__" (nat_lit 816), .str "ErrorThing.__init__" (nat_lit 817), .str "/claim/cut.py" (nat_lit 818), .int 101 0, .int 4 0, .int 0 0, .int 0 0, .int 3 0, .ref 351, .bool true, .int 181 0, .ref 352, .none, .ref 353, .ref 354, .ref 355, .int 823 0, .int 101 0, .str "/claim/cut.py" (nat_lit 824)]), #[]⟩
noncomputable def o357 : Obj := fnL (sub 18 0) rfl "ErrorThing.__init__" (.ref 350) (.str "gemrows.things" (nat_lit 584)) (.ref 356)
noncomputable def o358 : Obj := ⟨.type "tuple", none, (.seq #[.str "cause" (nat_lit 826), .str "message" (nat_lit 827)] 0), #[]⟩
noncomputable def o359 (P : Params) : Obj := ⟨.type "dict", none, (.dict #[de P "__module__" (nat_lit 811) (.str "gemrows.things" (nat_lit 584)), de P "__firstlineno__" (nat_lit 815) (.int 99 (nat_lit 814)), de P "__init__" (nat_lit 825) (.ref 357), de P "__static_attributes__" (nat_lit 828) (.ref 358), de P "__doc__" (nat_lit 829) .none] 2), #[]⟩
noncomputable def o360 : Obj := ⟨.type "type", none, (.cls ⟨"ErrorThing", [.ref 219], [.ref 360, .ref 219, .type "object"], 359, "ErrorThing", true, [], [], false, none, false⟩), #[some (.ref 343), none, some (.str "ErrorThing" (nat_lit 804)), some (.str "ErrorThing" (nat_lit 812)), some (.builtin "object.__new__"), some (.bool true)]⟩
noncomputable def o361 : Obj := ⟨.type "super", none, (.fields #[.ref 360, .ref 360, .ref 360]), #[]⟩
noncomputable def o362 : Obj := ⟨.type "builtin_function_or_method", none, (.fields #[.builtin "object.__init_subclass__", .ref 360]), #[]⟩
noncomputable def o365 (P : Params) : Obj := ⟨.type "dict", none, (.dict #[de P "__module__" (nat_lit 839) (.str "gemrows.things" (nat_lit 584)), de P "__qualname__" (nat_lit 841) (.str "FiberThing" (nat_lit 840)), de P "__firstlineno__" (nat_lit 843) (.int 105 (nat_lit 842)), de P "__init__" (nat_lit 853) (.ref 377), de P "__static_attributes__" (nat_lit 858) (.ref 378)] 5), #[]⟩
noncomputable def o367 : Obj := ⟨.none, none, (.fields #[.int 107 0, .int 4 0, .ref 376]), #[]⟩
noncomputable def o368 : Obj := ⟨.type "code", none, (.fields #[.str "FiberThing" (nat_lit 834), .str "FiberThing" (nat_lit 835), .str "/claim/cut.py" (nat_lit 836), .int 105 0, .int 0 0, .int 0 0, .int 0 0, .int 0 0, .ref 366, .bool false, .int 181 0, .ref 367, .none, .none, .none, .none, .int 837 0, .int 105 0, .str "/claim/cut.py" (nat_lit 838)]), #[]⟩
noncomputable def o369 : Obj := ⟨.type "frame", none, .plain, #[some (.ref 368), some (.ref 3), some (.ref 365), none, some (.str "gemrows.things" (nat_lit 584)), none, some (.ref 0)]⟩
noncomputable def o373 : Obj := ⟨.type "tuple", none, (.seq #[.str "self" (nat_lit 847), .str "number" (nat_lit 848), .str "owner" (nat_lit 849), .str "proc" (nat_lit 850)] 0), #[]⟩
noncomputable def o376 : Obj := ⟨.type "code", none, (.fields #[.str "__init__" (nat_lit 844), .str "FiberThing.__init__" (nat_lit 845), .str "/claim/cut.py" (nat_lit 846), .int 107 0, .int 4 0, .int 0 0, .int 0 0, .int 3 0, .ref 371, .bool true, .int 181 0, .ref 372, .none, .ref 373, .ref 374, .ref 375, .int 851 0, .int 107 0, .str "/claim/cut.py" (nat_lit 852)]), #[]⟩
noncomputable def o377 : Obj := fnL (sub 19 0) rfl "FiberThing.__init__" (.ref 370) (.str "gemrows.things" (nat_lit 584)) (.ref 376)
noncomputable def o378 : Obj := ⟨.type "tuple", none, (.seq #[.str "back" (nat_lit 854), .str "proc" (nat_lit 855), .str "rows" (nat_lit 856), .str "state" (nat_lit 857)] 0), #[]⟩
noncomputable def o379 (P : Params) : Obj := ⟨.type "dict", none, (.dict #[de P "__module__" (nat_lit 839) (.str "gemrows.things" (nat_lit 584)), de P "__firstlineno__" (nat_lit 843) (.int 105 (nat_lit 842)), de P "__init__" (nat_lit 853) (.ref 377), de P "__static_attributes__" (nat_lit 858) (.ref 378), de P "__doc__" (nat_lit 859) .none] 2), #[]⟩
noncomputable def o380 : Obj := ⟨.type "type", none, (.cls ⟨"FiberThing", [.ref 219], [.ref 380, .ref 219, .type "object"], 379, "FiberThing", true, [], [], false, none, false⟩), #[some (.ref 363), none, some (.str "FiberThing" (nat_lit 832)), some (.str "FiberThing" (nat_lit 840)), some (.builtin "object.__new__"), some (.bool true)]⟩
noncomputable def o381 : Obj := ⟨.type "super", none, (.fields #[.ref 380, .ref 380, .ref 380]), #[]⟩
noncomputable def o382 : Obj := ⟨.type "builtin_function_or_method", none, (.fields #[.builtin "object.__init_subclass__", .ref 380]), #[]⟩
noncomputable def o385 (P : Params) : Obj := ⟨.type "dict", none, (.dict #[de P "__module__" (nat_lit 869) (.str "gemrows.things" (nat_lit 584)), de P "__qualname__" (nat_lit 871) (.str "ModuleThing" (nat_lit 870)), de P "__firstlineno__" (nat_lit 873) (.int 113 (nat_lit 872)), de P "__init__" (nat_lit 886) (.ref 397), de P "is_own" (nat_lit 893) (.ref 404), de P "__static_attributes__" (nat_lit 905) (.ref 405)] 6), #[]⟩
noncomputable def o387 : Obj := ⟨.none, none, (.fields #[.int 115 0, .int 4 0, .ref 396, .int 129 0, .int 4 0, .ref 403]), #[]⟩
noncomputable def o388 : Obj := ⟨.type "code", none, (.fields #[.str "ModuleThing" (nat_lit 864), .str "ModuleThing" (nat_lit 865), .str "/claim/cut.py" (nat_lit 866), .int 113 0, .int 0 0, .int 0 0, .int 0 0, .int 0 0, .ref 386, .bool false, .int 181 0, .ref 387, .none, .none, .none, .none, .int 867 0, .int 113 0, .str "/claim/cut.py" (nat_lit 868)]), #[]⟩
noncomputable def o389 : Obj := ⟨.type "frame", none, .plain, #[some (.ref 388), some (.ref 3), some (.ref 385), none, some (.str "gemrows.things" (nat_lit 584)), none, some (.ref 0)]⟩
noncomputable def o390 : Obj := ⟨.type "tuple", none, (.seq #[.none, .bool false, .none, .none] 0), #[]⟩
noncomputable def o393 : Obj := ⟨.type "tuple", none, (.seq #[.str "self" (nat_lit 877), .str "number" (nat_lit 878), .str "owner" (nat_lit 879), .str "name" (nat_lit 880), .str "is_class" (nat_lit 881), .str "parent" (nat_lit 882), .str "outer" (nat_lit 883)] 0), #[]⟩
noncomputable def o396 : Obj := ⟨.type "code", none, (.fields #[.str "__init__" (nat_lit 874), .str "ModuleThing.__init__" (nat_lit 875), .str "/claim/cut.py" (nat_lit 876), .int 115 0, .int 7 0, .int 0 0, .int 0 0, .int 3 0, .ref 391, .bool true, .int 181 0, .ref 392, .none, .ref 393, .ref 394, .ref 395, .int 884 0, .int 115 0, .str "/claim/cut.py" (nat_lit 885)]), #[]⟩
noncomputable def o397 : Obj := fnL (sub 20 0) rfl "ModuleThing.__init__" (.ref 390) (.str "gemrows.things" (nat_lit 584)) (.ref 396)
noncomputable def o400 : Obj := ⟨.type "tuple", none, (.seq #[.str "self" (nat_lit 890)] 0), #[]⟩
noncomputable def o403 : Obj := ⟨.type "code", none, (.fields #[.str "is_own" (nat_lit 887), .str "ModuleThing.is_own" (nat_lit 888), .str "/claim/cut.py" (nat_lit 889), .int 129 0, .int 1 0, .int 0 0, .int 0 0, .int 3 0, .ref 398, .bool true, .int 181 0, .ref 399, .none, .ref 400, .ref 401, .ref 402, .int 891 0, .int 129 0, .str "/claim/cut.py" (nat_lit 892)]), #[]⟩
noncomputable def o404 : Obj := fnL (sub 20 1) rfl "ModuleThing.is_own" .none (.str "gemrows.things" (nat_lit 584)) (.ref 403)
noncomputable def o405 : Obj := ⟨.type "tuple", none, (.seq #[.str "ahead" (nat_lit 894), .str "attached" (nat_lit 895), .str "constants" (nat_lit 896), .str "is_class" (nat_lit 897), .str "kept" (nat_lit 898), .str "methods" (nat_lit 899), .str "mixed" (nat_lit 900), .str "name" (nat_lit 901), .str "native" (nat_lit 902), .str "outer" (nat_lit 903), .str "parent" (nat_lit 904)] 0), #[]⟩
noncomputable def o406 (P : Params) : Obj := ⟨.type "dict", none, (.dict #[de P "__module__" (nat_lit 869) (.str "gemrows.things" (nat_lit 584)), de P "__firstlineno__" (nat_lit 873) (.int 113 (nat_lit 872)), de P "__init__" (nat_lit 886) (.ref 397), de P "is_own" (nat_lit 893) (.ref 404), de P "__static_attributes__" (nat_lit 905) (.ref 405), de P "__doc__" (nat_lit 906) .none] 2), #[]⟩
noncomputable def o407 : Obj := ⟨.type "type", none, (.cls ⟨"ModuleThing", [.ref 219], [.ref 407, .ref 219, .type "object"], 406, "ModuleThing", true, [], [], false, none, false⟩), #[some (.ref 383), none, some (.str "ModuleThing" (nat_lit 862)), some (.str "ModuleThing" (nat_lit 870)), some (.builtin "object.__new__"), some (.bool true)]⟩
noncomputable def o408 : Obj := ⟨.type "super", none, (.fields #[.ref 407, .ref 407, .ref 407]), #[]⟩
noncomputable def o409 : Obj := ⟨.type "builtin_function_or_method", none, (.fields #[.builtin "object.__init_subclass__", .ref 407]), #[]⟩
noncomputable def o412 : Obj := ⟨.type "tuple", none, (.seq #[.str "value" (nat_lit 912)] 0), #[]⟩
noncomputable def o415 : Obj := ⟨.type "code", none, (.fields #[.str "sort_of" (nat_lit 909), .str "sort_of" (nat_lit 910), .str "/claim/cut.py" (nat_lit 911), .int 131 0, .int 1 0, .int 0 0, .int 0 0, .int 3 0, .ref 410, .bool true, .int 181 0, .ref 411, .none, .ref 412, .ref 413, .ref 414, .int 913 0, .int 131 0, .str "/claim/cut.py" (nat_lit 914)]), #[]⟩
noncomputable def o416 : Obj := fnL (stm 21) rfl "sort_of" .none (.str "gemrows.things" (nat_lit 584)) (.ref 415)
noncomputable def o419 : Obj := ⟨.type "tuple", none, (.seq #[.str "one" (nat_lit 919), .str "other" (nat_lit 920), .str "sort" (nat_lit 921)] 0), #[]⟩
noncomputable def o422 : Obj := ⟨.type "code", none, (.fields #[.str "same" (nat_lit 916), .str "same" (nat_lit 917), .str "/claim/cut.py" (nat_lit 918), .int 139 0, .int 2 0, .int 0 0, .int 0 0, .int 3 0, .ref 417, .bool true, .int 181 0, .ref 418, .none, .ref 419, .ref 420, .ref 421, .int 922 0, .int 139 0, .str "/claim/cut.py" (nat_lit 923)]), #[]⟩
noncomputable def o423 : Obj := fnL (stm 22) rfl "same" .none (.str "gemrows.things" (nat_lit 584)) (.ref 422)
noncomputable def o426 : Obj := ⟨.type "tuple", none, (.seq #[.str "room" (nat_lit 928), .str "many" (nat_lit 929)] 0), #[]⟩
noncomputable def o429 : Obj := ⟨.type "code", none, (.fields #[.str "takes_in" (nat_lit 925), .str "takes_in" (nat_lit 926), .str "/claim/cut.py" (nat_lit 927), .int 144 0, .int 2 0, .int 0 0, .int 0 0, .int 3 0, .ref 424, .bool true, .int 181 0, .ref 425, .none, .ref 426, .ref 427, .ref 428, .int 930 0, .int 144 0, .str "/claim/cut.py" (nat_lit 931)]), #[]⟩
noncomputable def o430 : Obj := fnL (stm 23) rfl "takes_in" .none (.str "gemrows.things" (nat_lit 584)) (.ref 429)
noncomputable def o431 : Obj := ⟨.type "tuple", none, (.seq #[.int 12 (nat_lit 586), .none] 0), #[]⟩
noncomputable def o435 : Obj := ⟨.type "code", none, (.fields #[.str "code_of" (nat_lit 933), .str "code_of" (nat_lit 934), .str "/claim/cut.py" (nat_lit 935), .int 149 0, .int 3 0, .int 0 0, .int 0 0, .int 3 0, .ref 432, .bool true, .int 181 0, .ref 433, .none, .none, .none, .ref 434, .int 936 0, .int 149 0, .str "/claim/cut.py" (nat_lit 937)]), #[]⟩
noncomputable def o436 : Obj := fnL (stm 24) rfl "code_of" (.ref 431) (.str "gemrows.things" (nat_lit 584)) (.ref 435)
noncomputable def o439 : Obj := ⟨.type "tuple", none, (.seq #[.str "module" (nat_lit 942), .str "ahead" (nat_lit 943), .str "behind" (nat_lit 944), .str "met" (nat_lit 945)] 0), #[]⟩
noncomputable def o442 : Obj := ⟨.type "code", none, (.fields #[.str "full_name" (nat_lit 939), .str "full_name" (nat_lit 940), .str "/claim/cut.py" (nat_lit 941), .int 164 0, .int 1 0, .int 0 0, .int 0 0, .int 3 0, .ref 437, .bool true, .int 181 0, .ref 438, .none, .ref 439, .ref 440, .ref 441, .int 946 0, .int 164 0, .str "/claim/cut.py" (nat_lit 947)]), #[]⟩
noncomputable def o443 : Obj := fnL (stm 25) rfl "full_name" .none (.str "gemrows.things" (nat_lit 584)) (.ref 442)
noncomputable def o446 : Obj := ⟨.type "tuple", none, (.seq #[.str "params" (nat_lit 954)] 0), #[]⟩
noncomputable def o449 : Obj := ⟨.type "code", none, (.fields #[.str "least_of" (nat_lit 951), .str "least_of" (nat_lit 952), .str "/claim/cut.py" (nat_lit 953), .int 180 0, .int 1 0, .int 0 0, .int 0 0, .int 3 0, .ref 444, .bool true, .int 181 0, .ref 445, .none, .ref 446, .ref 447, .ref 448, .int 955 0, .int 180 0, .str "/claim/cut.py" (nat_lit 956)]), #[]⟩
noncomputable def o450 : Obj := fnL (stm 27) rfl "least_of" .none (.str "gemrows.binding" (nat_lit 949)) (.ref 449)
noncomputable def o453 : Obj := ⟨.type "tuple", none, (.seq #[.str "params" (nat_lit 961)] 0), #[]⟩
noncomputable def o456 : Obj := ⟨.type "code", none, (.fields #[.str "most_of" (nat_lit 958), .str "most_of" (nat_lit 959), .str "/claim/cut.py" (nat_lit 960), .int 182 0, .int 1 0, .int 0 0, .int 0 0, .int 3 0, .ref 451, .bool true, .int 181 0, .ref 452, .none, .ref 453, .ref 454, .ref 455, .int 962 0, .int 182 0, .str "/claim/cut.py" (nat_lit 963)]), #[]⟩
noncomputable def o457 : Obj := fnL (stm 28) rfl "most_of" .none (.str "gemrows.binding" (nat_lit 949)) (.ref 456)
noncomputable def o460 : Obj := ⟨.type "tuple", none, (.seq #[.str "params" (nat_lit 968)] 0), #[]⟩
noncomputable def o463 : Obj := ⟨.type "code", none, (.fields #[.str "places_of" (nat_lit 965), .str "places_of" (nat_lit 966), .str "/claim/cut.py" (nat_lit 967), .int 184 0, .int 1 0, .int 0 0, .int 0 0, .int 3 0, .ref 458, .bool true, .int 181 0, .ref 459, .none, .ref 460, .ref 461, .ref 462, .int 969 0, .int 184 0, .str "/claim/cut.py" (nat_lit 970)]), #[]⟩
noncomputable def o464 : Obj := fnL (stm 29) rfl "places_of" .none (.str "gemrows.binding" (nat_lit 949)) (.ref 463)
noncomputable def o467 : Obj := ⟨.type "tuple", none, (.seq #[.str "least" (nat_lit 975), .str "most" (nat_lit 976)] 0), #[]⟩
noncomputable def o470 : Obj := ⟨.type "code", none, (.fields #[.str "bounds_text" (nat_lit 972), .str "bounds_text" (nat_lit 973), .str "/claim/cut.py" (nat_lit 974), .int 186 0, .int 2 0, .int 0 0, .int 0 0, .int 3 0, .ref 465, .bool true, .int 181 0, .ref 466, .none, .ref 467, .ref 468, .ref 469, .int 977 0, .int 186 0, .str "/claim/cut.py" (nat_lit 978)]), #[]⟩
noncomputable def o471 : Obj := fnL (stm 30) rfl "bounds_text" .none (.str "gemrows.binding" (nat_lit 949)) (.ref 470)
noncomputable def o474 : Obj := ⟨.type "tuple", none, (.seq #[.str "world" (nat_lit 983), .str "many" (nat_lit 984), .str "least" (nat_lit 985), .str "most" (nat_lit 986), .str "told" (nat_lit 987)] 0), #[]⟩
noncomputable def o477 : Obj := ⟨.type "code", none, (.fields #[.str "check_count" (nat_lit 980), .str "check_count" (nat_lit 981), .str "/claim/cut.py" (nat_lit 982), .int 190 0, .int 4 0, .int 0 0, .int 0 0, .int 3 0, .ref 472, .bool true, .int 181 0, .ref 473, .none, .ref 474, .ref 475, .ref 476, .int 988 0, .int 190 0, .str "/claim/cut.py" (nat_lit 989)]), #[]⟩
noncomputable def o478 : Obj := fnL (stm 31) rfl "check_count" .none (.str "gemrows.binding" (nat_lit 949)) (.ref 477)
noncomputable def o481 : Obj := ⟨.type "tuple", none, (.seq #[.str "place" (nat_lit 994)] 0), #[]⟩
noncomputable def o484 : Obj := ⟨.type "code", none, (.fields #[.str "group_names" (nat_lit 991), .str "group_names" (nat_lit 992), .str "/claim/cut.py" (nat_lit 993), .int 194 0, .int 1 0, .int 0 0, .int 0 0, .int 3 0, .ref 479, .bool true, .int 181 0, .ref 480, .none, .ref 481, .ref 482, .ref 483, .int 995 0, .int 194 0, .str "/claim/cut.py" (nat_lit 996)]), #[]⟩
noncomputable def o485 : Obj := fnL (stm 32) rfl "group_names" .none (.str "gemrows.binding" (nat_lit 949)) (.ref 484)
noncomputable def o489 : Obj := ⟨.type "code", none, (.fields #[.str "names_in" (nat_lit 998), .str "names_in" (nat_lit 999), .str "/claim/cut.py" (nat_lit 1000), .int 196 0, .int 1 0, .int 0 0, .int 0 0, .int 3 0, .ref 486, .bool true, .int 181 0, .ref 487, .none, .none, .none, .ref 488, .int 1001 0, .int 196 0, .str "/claim/cut.py" (nat_lit 1002)]), #[]⟩
noncomputable def o490 : Obj := fnL (stm 33) rfl "names_in" .none (.str "gemrows.binding" (nat_lit 949)) (.ref 489)
noncomputable def o493 : Obj := ⟨.type "tuple", none, (.seq #[.str "args" (nat_lit 1007), .str "params" (nat_lit 1008), .str "most" (nat_lit 1009), .str "lack" (nat_lit 1010)] 0), #[]⟩
noncomputable def o496 : Obj := ⟨.type "code", none, (.fields #[.str "fitted" (nat_lit 1004), .str "fitted" (nat_lit 1005), .str "/claim/cut.py" (nat_lit 1006), .int 208 0, .int 2 0, .int 0 0, .int 0 0, .int 3 0, .ref 491, .bool true, .int 181 0, .ref 492, .none, .ref 493, .ref 494, .ref 495, .int 1011 0, .int 208 0, .str "/claim/cut.py" (nat_lit 1012)]), #[]⟩
noncomputable def o497 : Obj := fnL (stm 34) rfl "fitted" .none (.str "gemrows.binding" (nat_lit 949)) (.ref 496)
noncomputable def o500 : Obj := ⟨.type "tuple", none, (.seq #[.str "value" (nat_lit 1017)] 0), #[]⟩
noncomputable def o503 : Obj := ⟨.type "code", none, (.fields #[.str "items_of" (nat_lit 1014), .str "items_of" (nat_lit 1015), .str "/claim/cut.py" (nat_lit 1016), .int 213 0, .int 1 0, .int 0 0, .int 0 0, .int 3 0, .ref 498, .bool true, .int 181 0, .ref 499, .none, .ref 500, .ref 501, .ref 502, .int 1018 0, .int 213 0, .str "/claim/cut.py" (nat_lit 1019)]), #[]⟩
noncomputable def o504 : Obj := fnL (stm 35) rfl "items_of" .none (.str "gemrows.binding" (nat_lit 949)) (.ref 503)
noncomputable def o507 : Obj := ⟨.type "tuple", none, (.seq #[.str "world" (nat_lit 1024), .str "place" (nat_lit 1025), .str "value" (nat_lit 1026), .str "values" (nat_lit 1027)] 0), #[]⟩
noncomputable def o510 : Obj := ⟨.type "code", none, (.fields #[.str "put_place" (nat_lit 1021), .str "put_place" (nat_lit 1022), .str "/claim/cut.py" (nat_lit 1023), .int 215 0, .int 4 0, .int 0 0, .int 0 0, .int 3 0, .ref 505, .bool true, .int 181 0, .ref 506, .none, .ref 507, .ref 508, .ref 509, .int 1028 0, .int 215 0, .str "/claim/cut.py" (nat_lit 1029)]), #[]⟩
noncomputable def o511 : Obj := fnL (stm 36) rfl "put_place" .none (.str "gemrows.binding" (nat_lit 949)) (.ref 510)
noncomputable def o514 : Obj := ⟨.type "tuple", none, (.seq #[.str "world" (nat_lit 1034), .str "params" (nat_lit 1035), .str "args" (nat_lit 1036), .str "values" (nat_lit 1037), .str "front" (nat_lit 1038), .str "back" (nat_lit 1039), .str "given" (nat_lit 1040), .str "at" (nat_lit 1041), .str "behind" (nat_lit 1042)] 0), #[]⟩
noncomputable def o517 : Obj := ⟨.type "code", none, (.fields #[.str "put_all" (nat_lit 1031), .str "put_all" (nat_lit 1032), .str "/claim/cut.py" (nat_lit 1033), .int 220 0, .int 4 0, .int 0 0, .int 0 0, .int 3 0, .ref 512, .bool true, .int 181 0, .ref 513, .none, .ref 514, .ref 515, .ref 516, .int 1043 0, .int 220 0, .str "/claim/cut.py" (nat_lit 1044)]), #[]⟩
noncomputable def o518 : Obj := fnL (stm 37) rfl "put_all" .none (.str "gemrows.binding" (nat_lit 949)) (.ref 517)
noncomputable def o521 : Obj := ⟨.type "tuple", none, (.seq #[.str "world" (nat_lit 1049), .str "params" (nat_lit 1050), .str "args" (nat_lit 1051), .str "strict" (nat_lit 1052), .str "values" (nat_lit 1053), .str "given" (nat_lit 1054)] 0), #[]⟩
noncomputable def o524 : Obj := ⟨.type "code", none, (.fields #[.str "bind" (nat_lit 1046), .str "bind" (nat_lit 1047), .str "/claim/cut.py" (nat_lit 1048), .int 233 0, .int 4 0, .int 0 0, .int 0 0, .int 3 0, .ref 519, .bool true, .int 181 0, .ref 520, .none, .ref 521, .ref 522, .ref 523, .int 1055 0, .int 233 0, .str "/claim/cut.py" (nat_lit 1056)]), #[]⟩
noncomputable def o525 : Obj := fnL (stm 38) rfl "bind" .none (.str "gemrows.binding" (nat_lit 949)) (.ref 524)
noncomputable def o528 : Obj := ⟨.type "tuple", none, (.seq #[.str "world" (nat_lit 1063)] 0), #[]⟩
noncomputable def o531 : Obj := ⟨.type "code", none, (.fields #[.str "raise_version" (nat_lit 1060), .str "raise_version" (nat_lit 1061), .str "/claim/cut.py" (nat_lit 1062), .int 244 0, .int 1 0, .int 0 0, .int 0 0, .int 3 0, .ref 526, .bool true, .int 181 0, .ref 527, .none, .ref 528, .ref 529, .ref 530, .int 1064 0, .int 244 0, .str "/claim/cut.py" (nat_lit 1065)]), #[]⟩
noncomputable def o532 : Obj := fnL (stm 40) rfl "raise_version" .none (.str "gemrows.lines" (nat_lit 1058)) (.ref 531)
noncomputable def o535 : Obj := ⟨.type "tuple", none, (.seq #[.str "world" (nat_lit 1070), .str "value" (nat_lit 1071), .str "waiting" (nat_lit 1072), .str "one" (nat_lit 1073)] 0), #[]⟩
noncomputable def o538 : Obj := ⟨.type "code", none, (.fields #[.str "own_module" (nat_lit 1067), .str "own_module" (nat_lit 1068), .str "/claim/cut.py" (nat_lit 1069), .int 246 0, .int 2 0, .int 0 0, .int 0 0, .int 3 0, .ref 533, .bool true, .int 181 0, .ref 534, .none, .ref 535, .ref 536, .ref 537, .int 1074 0, .int 246 0, .str "/claim/cut.py" (nat_lit 1075)]), #[]⟩
noncomputable def o539 : Obj := fnL (stm 41) rfl "own_module" .none (.str "gemrows.lines" (nat_lit 1058)) (.ref 538)
noncomputable def o542 : Obj := ⟨.type "tuple", none, (.seq #[.str "value" (nat_lit 1080)] 0), #[]⟩
noncomputable def o545 : Obj := ⟨.type "code", none, (.fields #[.str "class_above" (nat_lit 1077), .str "class_above" (nat_lit 1078), .str "/claim/cut.py" (nat_lit 1079), .int 258 0, .int 1 0, .int 0 0, .int 0 0, .int 3 0, .ref 540, .bool true, .int 181 0, .ref 541, .none, .ref 542, .ref 543, .ref 544, .int 1081 0, .int 258 0, .str "/claim/cut.py" (nat_lit 1082)]), #[]⟩
noncomputable def o546 : Obj := fnL (stm 42) rfl "class_above" .none (.str "gemrows.lines" (nat_lit 1058)) (.ref 545)
noncomputable def o549 : Obj := ⟨.type "tuple", none, (.seq #[.str "world" (nat_lit 1087), .str "value" (nat_lit 1088), .str "above" (nat_lit 1089), .str "parent" (nat_lit 1090)] 0), #[]⟩
noncomputable def o552 : Obj := ⟨.type "code", none, (.fields #[.str "make_own" (nat_lit 1084), .str "make_own" (nat_lit 1085), .str "/claim/cut.py" (nat_lit 1086), .int 260 0, .int 2 0, .int 0 0, .int 0 0, .int 3 0, .ref 547, .bool true, .int 181 0, .ref 548, .none, .ref 549, .ref 550, .ref 551, .int 1091 0, .int 260 0, .str "/claim/cut.py" (nat_lit 1092)]), #[]⟩
noncomputable def o553 : Obj := fnL (stm 43) rfl "make_own" .none (.str "gemrows.lines" (nat_lit 1058)) (.ref 552)
noncomputable def o554 : Obj := ⟨.type "tuple", none, (.seq #[.str "Kernel" (nat_lit 1096), .str "Comparable" (nat_lit 1097), .str "Enumerable" (nat_lit 1098)] 0), #[]⟩
noncomputable def o555 (P : Params) : Obj := ⟨.type "dict", none, (.dict #[de P "BasicObject" (nat_lit 1100) .none, de P "Object" (nat_lit 1102) (.str "BasicObject" (nat_lit 1103)), de P "Module" (nat_lit 1105) (.str "Object" (nat_lit 1106)), de P "Class" (nat_lit 1108) (.str "Module" (nat_lit 1109)), de P "Kernel" (nat_lit 1111) .none, de P "Comparable" (nat_lit 1113) .none, de P "Enumerable" (nat_lit 1115) .none, de P "NilClass" (nat_lit 1117) (.str "Object" (nat_lit 1118)), de P "TrueClass" (nat_lit 1120) (.str "Object" (nat_lit 1121)), de P "FalseClass" (nat_lit 1123) (.str "Object" (nat_lit 1124)), de P "Numeric" (nat_lit 1126) (.str "Object" (nat_lit 1127)), de P "Integer" (nat_lit 1129) (.str "Numeric" (nat_lit 1130)), de P "String" (nat_lit 1132) (.str "Object" (nat_lit 1133)), de P "Symbol" (nat_lit 1135) (.str "Object" (nat_lit 1136)), de P "Array" (nat_lit 1138) (.str "Object" (nat_lit 1139)), de P "Hash" (nat_lit 1141) (.str "Object" (nat_lit 1142)), de P "Range" (nat_lit 1144) (.str "Object" (nat_lit 1145)), de P "Proc" (nat_lit 1147) (.str "Object" (nat_lit 1148)), de P "Fiber" (nat_lit 1150) (.str "Object" (nat_lit 1151)), de P "Exception" (nat_lit 1153) (.str "Object" (nat_lit 1154)), de P "ScriptError" (nat_lit 1156) (.str "Exception" (nat_lit 1157)), de P "NotImplementedError" (nat_lit 1159) (.str "ScriptError" (nat_lit 1160)), de P "SystemStackError" (nat_lit 1162) (.str "Exception" (nat_lit 1163)), de P "StandardError" (nat_lit 1165) (.str "Exception" (nat_lit 1166)), de P "ArgumentError" (nat_lit 1168) (.str "StandardError" (nat_lit 1169)), de P "UncaughtThrowError" (nat_lit 1171) (.str "ArgumentError" (nat_lit 1172)), de P "FiberError" (nat_lit 1174) (.str "StandardError" (nat_lit 1175)), de P "IndexError" (nat_lit 1177) (.str "StandardError" (nat_lit 1178)), de P "KeyError" (nat_lit 1180) (.str "IndexError" (nat_lit 1181)), de P "StopIteration" (nat_lit 1183) (.str "IndexError" (nat_lit 1184)), de P "LocalJumpError" (nat_lit 1186) (.str "StandardError" (nat_lit 1187)), de P "NameError" (nat_lit 1189) (.str "StandardError" (nat_lit 1190)), de P "NoMethodError" (nat_lit 1192) (.str "NameError" (nat_lit 1193)), de P "NoMatchingPatternError" (nat_lit 1195) (.str "StandardError" (nat_lit 1196)), de P "NoMatchingPatternKeyError" (nat_lit 1198) (.str "NoMatchingPatternError" (nat_lit 1199)), de P "RangeError" (nat_lit 1200) (.str "StandardError" (nat_lit 1201)), de P "RuntimeError" (nat_lit 1202) (.str "StandardError" (nat_lit 1203)), de P "FrozenError" (nat_lit 1204) (.str "RuntimeError" (nat_lit 1205)), de P "TypeError" (nat_lit 1206) (.str "StandardError" (nat_lit 1207)), de P "ZeroDivisionError" (nat_lit 1208) (.str "StandardError" (nat_lit 1209))] 40), #[]⟩
noncomputable def o556 (P : Params) : Obj := ⟨.type "dict", none, (.dict #[de P "Proc" (nat_lit 1147) (.str "Object" (nat_lit 1148)), de P "Fiber" (nat_lit 1150) (.str "Object" (nat_lit 1151)), de P "Exception" (nat_lit 1153) (.str "Object" (nat_lit 1154)), de P "ScriptError" (nat_lit 1156) (.str "Exception" (nat_lit 1157)), de P "NotImplementedError" (nat_lit 1159) (.str "ScriptError" (nat_lit 1160)), de P "SystemStackError" (nat_lit 1162) (.str "Exception" (nat_lit 1163)), de P "StandardError" (nat_lit 1165) (.str "Exception" (nat_lit 1166)), de P "ArgumentError" (nat_lit 1168) (.str "StandardError" (nat_lit 1169)), de P "UncaughtThrowError" (nat_lit 1171) (.str "ArgumentError" (nat_lit 1172)), de P "FiberError" (nat_lit 1174) (.str "StandardError" (nat_lit 1175)), de P "IndexError" (nat_lit 1177) (.str "StandardError" (nat_lit 1178)), de P "KeyError" (nat_lit 1180) (.str "IndexError" (nat_lit 1181)), de P "StopIteration" (nat_lit 1183) (.str "IndexError" (nat_lit 1184)), de P "LocalJumpError" (nat_lit 1186) (.str "StandardError" (nat_lit 1187)), de P "NameError" (nat_lit 1189) (.str "StandardError" (nat_lit 1190)), de P "NoMethodError" (nat_lit 1192) (.str "NameError" (nat_lit 1193)), de P "NoMatchingPatternError" (nat_lit 1195) (.str "StandardError" (nat_lit 1196))] 17), #[]⟩
noncomputable def o557 (P : Params) : Obj := ⟨.type "dict", none, (.dict #[de P "NoMatchingPatternKeyError" (nat_lit 1198) (.str "NoMatchingPatternError" (nat_lit 1199)), de P "RangeError" (nat_lit 1200) (.str "StandardError" (nat_lit 1201)), de P "RuntimeError" (nat_lit 1202) (.str "StandardError" (nat_lit 1203)), de P "FrozenError" (nat_lit 1204) (.str "RuntimeError" (nat_lit 1205)), de P "TypeError" (nat_lit 1206) (.str "StandardError" (nat_lit 1207)), de P "ZeroDivisionError" (nat_lit 1208) (.str "StandardError" (nat_lit 1209))] 6), #[]⟩
noncomputable def o558 (P : Params) : Obj := ⟨.type "dict", none, (.dict #[de P "Object" (nat_lit 1217) (.ref 559), de P "Numeric" (nat_lit 1219) (.ref 560), de P "String" (nat_lit 1221) (.ref 561), de P "Symbol" (nat_lit 1223) (.ref 562), de P "Array" (nat_lit 1225) (.ref 563), de P "Hash" (nat_lit 1227) (.ref 564), de P "Range" (nat_lit 1229) (.ref 565)] 7), #[]⟩
noncomputable def o559 : Obj := ⟨.type "tuple", none, (.seq #[.str "Kernel" (nat_lit 1218)] 0), #[]⟩
noncomputable def o560 : Obj := ⟨.type "tuple", none, (.seq #[.str "Comparable" (nat_lit 1220)] 0), #[]⟩
noncomputable def o561 : Obj := ⟨.type "tuple", none, (.seq #[.str "Comparable" (nat_lit 1222)] 0), #[]⟩
noncomputable def o562 : Obj := ⟨.type "tuple", none, (.seq #[.str "Comparable" (nat_lit 1224)] 0), #[]⟩
noncomputable def o563 : Obj := ⟨.type "tuple", none, (.seq #[.str "Enumerable" (nat_lit 1226)] 0), #[]⟩
noncomputable def o564 : Obj := ⟨.type "tuple", none, (.seq #[.str "Enumerable" (nat_lit 1228)] 0), #[]⟩
noncomputable def o565 : Obj := ⟨.type "tuple", none, (.seq #[.str "Enumerable" (nat_lit 1230)] 0), #[]⟩
noncomputable def o566 : Obj := ⟨.type "tuple", none, (.seq #[.str "NilClass" (nat_lit 1239), .str "TrueClass" (nat_lit 1240), .str "FalseClass" (nat_lit 1241), .str "Integer" (nat_lit 1242), .str "Symbol" (nat_lit 1243)] 0), #[]⟩
noncomputable def o569 (P : Params) : Obj := ⟨.type "dict", none, (.dict #[de P "__module__" (nat_lit 1252) (.str "gemrows.world" (nat_lit 1094)), de P "__qualname__" (nat_lit 1254) (.str "World" (nat_lit 1253)), de P "__firstlineno__" (nat_lit 1256) (.int 272 (nat_lit 1255)), de P "__init__" (nat_lit 1269) (.ref 581), de P "tick" (nat_lit 1276) (.ref 588), de P "write" (nat_lit 1284) (.ref 595), de P "number" (nat_lit 1291) (.ref 602), de P "next_ident" (nat_lit 1298) (.ref 609), de P "ident" (nat_lit 1307) (.ref 616), de P "builtin" (nat_lit 1316) (.ref 623), de P "make_builtin" (nat_lit 1322) (.ref 628), de P "give_own" (nat_lit 1330) (.ref 635), de P "new_module" (nat_lit 1345) (.ref 643), de P "class_of" (nat_lit 1353) (.ref 650), de P "own_of" (nat_lit 1361) (.ref 657), de P "own_behind" (nat_lit 1369) (.ref 664), de P "root_of" (nat_lit 1377) (.ref 671), de P "real_class" (nat_lit 1385) (.ref 678), de P "text" (nat_lit 1393) (.ref 685), de P "list_of" (nat_lit 1401) (.ref 692), de P "table_of" (nat_lit 1409) (.ref 699), de P "key_of" (nat_lit 1417) (.ref 706), de P "range_of" (nat_lit 1427) (.ref 713), de P "proc" (nat_lit 1444) (.ref 720), de P "thing" (nat_lit 1454) (.ref 727), de P "is_error_class" (nat_lit 1462) (.ref 734), de P "spread" (nat_lit 1470) (.ref 741), de P "numbers_of" (nat_lit 1478) (.ref 748), de P "need_size" (nat_lit 1486) (.ref 755), de P "sized_text" (nat_lit 1494) (.ref 762), de P "error" (nat_lit 1503) (.ref 769), de P "fail" (nat_lit 1512) (.ref 776), de P "need_thawed" (nat_lit 1520) (.ref 783), de P "set_field" (nat_lit 1530) (.ref 790), de P "describe" (nat_lit 1538) (.ref 797), de P "own_constant" (nat_lit 1547) (.ref 804), de P "find_constant" (nat_lit 1556) (.ref 811), de P "constant" (nat_lit 1565) (.ref 818), de P "find_in" (nat_lit 1574) (.ref 825), de P "constant_in" (nat_lit 1583) (.ref 832), de P "set_constant" (nat_lit 1593) (.ref 839), de P "__static_attributes__" (nat_lit 1610) (.ref 840)] 42), #[]⟩
noncomputable def o571 : Obj := ⟨.none, none, (.fields #[.int 274 0, .int 4 0, .ref 580, .int 295 0, .int 4 0, .ref 587, .int 298 0, .int 4 0, .ref 594, .int 301 0, .int 4 0, .ref 601, .int 305 0, .int 4 0, .ref 608, .int 309 0, .int 4 0, .ref 615, .int 325 0, .int 4 0, .ref 622, .int 329 0, .int 4 0, .ref 627, .int 342 0, .int 4 0, .ref 634, .int 346 0, .int 4 0, .ref 642, .int 355 0, .int 4 0, .ref 649, .int 364 0, .int 4 0, .ref 656, .int 367 0, .int 4 0, .ref 663, .int 370 0, .int 4 0, .ref 670, .int 375 0, .int 4 0, .ref 677, .int 378 0, .int 4 0, .ref 684, .int 381 0, .int 4 0, .ref 691, .int 384 0, .int 4 0, .ref 698, .int 387 0, .int 4 0, .ref 705, .int 390 0, .int 4 0, .ref 712, .int 393 0, .int 4 0, .ref 719, .int 397 0, .int 4 0, .ref 726, .int 423 0, .int 4 0, .ref 733, .int 430 0, .int 4 0, .ref 740, .int 433 0, .int 4 0, .ref 747, .int 436 0, .int 4 0, .ref 754, .int 439 0, .int 4 0, .ref 761, .int 442 0, .int 4 0, .ref 768, .int 445 0, .int 4 0, .ref 775, .int 448 0, .int 4 0, .ref 782, .int 451 0, .int 4 0, .ref 789, .int 454 0, .int 4 0, .ref 796, .int 457 0, .int 4 0, .ref 803, .int 460 0, .int 4 0, .ref 810, .int 463 0, .int 4 0, .ref 817, .int 466 0, .int 4 0, .ref 824, .int 469 0, .int 4 0, .ref 831, .int 472 0, .int 4 0, .ref 838]), #[]⟩
noncomputable def o572 : Obj := ⟨.type "code", none, (.fields #[.str "World" (nat_lit 1247), .str "World" (nat_lit 1248), .str "/claim/cut.py" (nat_lit 1249), .int 272 0, .int 0 0, .int 0 0, .int 0 0, .int 0 0, .ref 570, .bool false, .int 181 0, .ref 571, .none, .none, .none, .none, .int 1250 0, .int 272 0, .str "/claim/cut.py" (nat_lit 1251)]), #[]⟩
noncomputable def o573 : Obj := ⟨.type "frame", none, .plain, #[some (.ref 572), some (.ref 3), some (.ref 569), none, some (.str "gemrows.world" (nat_lit 1094)), none, some (.ref 0)]⟩
noncomputable def o574 : Obj := ⟨.type "tuple", none, (.seq #[.none, .none, .int 20000 (nat_lit 1257)] 0), #[]⟩
noncomputable def o577 : Obj := ⟨.type "tuple", none, (.seq #[.str "self" (nat_lit 1261), .str "natives" (nat_lit 1262), .str "prelude" (nat_lit 1263), .str "read" (nat_lit 1264), .str "most" (nat_lit 1265), .str "name" (nat_lit 1266)] 0), #[]⟩
noncomputable def o580 : Obj := ⟨.type "code", none, (.fields #[.str "__init__" (nat_lit 1258), .str "World.__init__" (nat_lit 1259), .str "/claim/cut.py" (nat_lit 1260), .int 274 0, .int 5 0, .int 0 0, .int 0 0, .int 3 0, .ref 575, .bool true, .int 181 0, .ref 576, .none, .ref 577, .ref 578, .ref 579, .int 1267 0, .int 274 0, .str "/claim/cut.py" (nat_lit 1268)]), #[]⟩
noncomputable def o581 : Obj := fnL (sub 49 0) rfl "World.__init__" (.ref 574) (.str "gemrows.world" (nat_lit 1094)) (.ref 580)
noncomputable def o584 : Obj := ⟨.type "tuple", none, (.seq #[.str "self" (nat_lit 1273)] 0), #[]⟩
noncomputable def o587 : Obj := ⟨.type "code", none, (.fields #[.str "tick" (nat_lit 1270), .str "World.tick" (nat_lit 1271), .str "/claim/cut.py" (nat_lit 1272), .int 295 0, .int 1 0, .int 0 0, .int 0 0, .int 3 0, .ref 582, .bool true, .int 181 0, .ref 583, .none, .ref 584, .ref 585, .ref 586, .int 1274 0, .int 295 0, .str "/claim/cut.py" (nat_lit 1275)]), #[]⟩
noncomputable def o588 : Obj := fnL (sub 49 1) rfl "World.tick" .none (.str "gemrows.world" (nat_lit 1094)) (.ref 587)
noncomputable def o591 : Obj := ⟨.type "tuple", none, (.seq #[.str "self" (nat_lit 1280), .str "text" (nat_lit 1281)] 0), #[]⟩
noncomputable def o594 : Obj := ⟨.type "code", none, (.fields #[.str "write" (nat_lit 1277), .str "World.write" (nat_lit 1278), .str "/claim/cut.py" (nat_lit 1279), .int 298 0, .int 2 0, .int 0 0, .int 0 0, .int 3 0, .ref 589, .bool true, .int 181 0, .ref 590, .none, .ref 591, .ref 592, .ref 593, .int 1282 0, .int 298 0, .str "/claim/cut.py" (nat_lit 1283)]), #[]⟩
noncomputable def o595 : Obj := fnL (sub 49 2) rfl "World.write" .none (.str "gemrows.world" (nat_lit 1094)) (.ref 594)
noncomputable def o598 : Obj := ⟨.type "tuple", none, (.seq #[.str "self" (nat_lit 1288)] 0), #[]⟩
noncomputable def o601 : Obj := ⟨.type "code", none, (.fields #[.str "number" (nat_lit 1285), .str "World.number" (nat_lit 1286), .str "/claim/cut.py" (nat_lit 1287), .int 301 0, .int 1 0, .int 0 0, .int 0 0, .int 3 0, .ref 596, .bool true, .int 181 0, .ref 597, .none, .ref 598, .ref 599, .ref 600, .int 1289 0, .int 301 0, .str "/claim/cut.py" (nat_lit 1290)]), #[]⟩
noncomputable def o602 : Obj := fnL (sub 49 3) rfl "World.number" .none (.str "gemrows.world" (nat_lit 1094)) (.ref 601)
noncomputable def o605 : Obj := ⟨.type "tuple", none, (.seq #[.str "self" (nat_lit 1295)] 0), #[]⟩
noncomputable def o608 : Obj := ⟨.type "code", none, (.fields #[.str "next_ident" (nat_lit 1292), .str "World.next_ident" (nat_lit 1293), .str "/claim/cut.py" (nat_lit 1294), .int 305 0, .int 1 0, .int 0 0, .int 0 0, .int 3 0, .ref 603, .bool true, .int 181 0, .ref 604, .none, .ref 605, .ref 606, .ref 607, .int 1296 0, .int 305 0, .str "/claim/cut.py" (nat_lit 1297)]), #[]⟩
noncomputable def o609 : Obj := fnL (sub 49 4) rfl "World.next_ident" .none (.str "gemrows.world" (nat_lit 1094)) (.ref 608)
noncomputable def o612 : Obj := ⟨.type "tuple", none, (.seq #[.str "self" (nat_lit 1302), .str "value" (nat_lit 1303), .str "sort" (nat_lit 1304)] 0), #[]⟩
noncomputable def o615 : Obj := ⟨.type "code", none, (.fields #[.str "ident" (nat_lit 1299), .str "World.ident" (nat_lit 1300), .str "/claim/cut.py" (nat_lit 1301), .int 309 0, .int 2 0, .int 0 0, .int 0 0, .int 3 0, .ref 610, .bool true, .int 181 0, .ref 611, .none, .ref 612, .ref 613, .ref 614, .int 1305 0, .int 309 0, .str "/claim/cut.py" (nat_lit 1306)]), #[]⟩
noncomputable def o616 : Obj := fnL (sub 49 5) rfl "World.ident" .none (.str "gemrows.world" (nat_lit 1094)) (.ref 615)
noncomputable def o619 : Obj := ⟨.type "tuple", none, (.seq #[.str "self" (nat_lit 1311), .str "name" (nat_lit 1312), .str "found" (nat_lit 1313)] 0), #[]⟩
noncomputable def o622 : Obj := ⟨.type "code", none, (.fields #[.str "builtin" (nat_lit 1308), .str "World.builtin" (nat_lit 1309), .str "/claim/cut.py" (nat_lit 1310), .int 325 0, .int 2 0, .int 0 0, .int 0 0, .int 3 0, .ref 617, .bool true, .int 181 0, .ref 618, .none, .ref 619, .ref 620, .ref 621, .int 1314 0, .int 325 0, .str "/claim/cut.py" (nat_lit 1315)]), #[]⟩
noncomputable def o623 : Obj := fnL (sub 49 6) rfl "World.builtin" .none (.str "gemrows.world" (nat_lit 1094)) (.ref 622)
noncomputable def o627 : Obj := ⟨.type "code", none, (.fields #[.str "make_builtin" (nat_lit 1317), .str "World.make_builtin" (nat_lit 1318), .str "/claim/cut.py" (nat_lit 1319), .int 329 0, .int 2 0, .int 0 0, .int 0 0, .int 3 0, .ref 624, .bool true, .int 181 0, .ref 625, .none, .none, .none, .ref 626, .int 1320 0, .int 329 0, .str "/claim/cut.py" (nat_lit 1321)]), #[]⟩
noncomputable def o628 : Obj := fnL (sub 49 7) rfl "World.make_builtin" .none (.str "gemrows.world" (nat_lit 1094)) (.ref 627)
noncomputable def o631 : Obj := ⟨.type "tuple", none, (.seq #[.str "self" (nat_lit 1326), .str "name" (nat_lit 1327)] 0), #[]⟩
noncomputable def o634 : Obj := ⟨.type "code", none, (.fields #[.str "give_own" (nat_lit 1323), .str "World.give_own" (nat_lit 1324), .str "/claim/cut.py" (nat_lit 1325), .int 342 0, .int 2 0, .int 0 0, .int 0 0, .int 3 0, .ref 629, .bool true, .int 181 0, .ref 630, .none, .ref 631, .ref 632, .ref 633, .int 1328 0, .int 342 0, .str "/claim/cut.py" (nat_lit 1329)]), #[]⟩
noncomputable def o635 : Obj := fnL (sub 49 8) rfl "World.give_own" .none (.str "gemrows.world" (nat_lit 1094)) (.ref 634)
noncomputable def o636 : Obj := ⟨.type "tuple", none, (.seq #[.none, .none, .none] 0), #[]⟩
noncomputable def o639 : Obj := ⟨.type "tuple", none, (.seq #[.str "self" (nat_lit 1334), .str "name" (nat_lit 1335), .str "is_class" (nat_lit 1336), .str "parent" (nat_lit 1337), .str "outer" (nat_lit 1338), .str "attached" (nat_lit 1339), .str "owner" (nat_lit 1340), .str "stands" (nat_lit 1341), .str "found" (nat_lit 1342)] 0), #[]⟩
noncomputable def o642 : Obj := ⟨.type "code", none, (.fields #[.str "new_module" (nat_lit 1331), .str "World.new_module" (nat_lit 1332), .str "/claim/cut.py" (nat_lit 1333), .int 346 0, .int 6 0, .int 0 0, .int 0 0, .int 3 0, .ref 637, .bool true, .int 181 0, .ref 638, .none, .ref 639, .ref 640, .ref 641, .int 1343 0, .int 346 0, .str "/claim/cut.py" (nat_lit 1344)]), #[]⟩
noncomputable def o643 : Obj := fnL (sub 49 9) rfl "World.new_module" (.ref 636) (.str "gemrows.world" (nat_lit 1094)) (.ref 642)
noncomputable def o646 : Obj := ⟨.type "tuple", none, (.seq #[.str "self" (nat_lit 1349), .str "value" (nat_lit 1350)] 0), #[]⟩
noncomputable def o649 : Obj := ⟨.type "code", none, (.fields #[.str "class_of" (nat_lit 1346), .str "World.class_of" (nat_lit 1347), .str "/claim/cut.py" (nat_lit 1348), .int 355 0, .int 2 0, .int 0 0, .int 0 0, .int 3 0, .ref 644, .bool true, .int 181 0, .ref 645, .none, .ref 646, .ref 647, .ref 648, .int 1351 0, .int 355 0, .str "/claim/cut.py" (nat_lit 1352)]), #[]⟩
noncomputable def o650 : Obj := fnL (sub 49 10) rfl "World.class_of" .none (.str "gemrows.world" (nat_lit 1094)) (.ref 649)
noncomputable def o653 : Obj := ⟨.type "tuple", none, (.seq #[.str "self" (nat_lit 1357), .str "value" (nat_lit 1358)] 0), #[]⟩
noncomputable def o656 : Obj := ⟨.type "code", none, (.fields #[.str "own_of" (nat_lit 1354), .str "World.own_of" (nat_lit 1355), .str "/claim/cut.py" (nat_lit 1356), .int 364 0, .int 2 0, .int 0 0, .int 0 0, .int 3 0, .ref 651, .bool true, .int 181 0, .ref 652, .none, .ref 653, .ref 654, .ref 655, .int 1359 0, .int 364 0, .str "/claim/cut.py" (nat_lit 1360)]), #[]⟩
noncomputable def o657 : Obj := fnL (sub 49 11) rfl "World.own_of" .none (.str "gemrows.world" (nat_lit 1094)) (.ref 656)
noncomputable def o660 : Obj := ⟨.type "tuple", none, (.seq #[.str "self" (nat_lit 1365), .str "module" (nat_lit 1366)] 0), #[]⟩
noncomputable def o663 : Obj := ⟨.type "code", none, (.fields #[.str "own_behind" (nat_lit 1362), .str "World.own_behind" (nat_lit 1363), .str "/claim/cut.py" (nat_lit 1364), .int 367 0, .int 2 0, .int 0 0, .int 0 0, .int 3 0, .ref 658, .bool true, .int 181 0, .ref 659, .none, .ref 660, .ref 661, .ref 662, .int 1367 0, .int 367 0, .str "/claim/cut.py" (nat_lit 1368)]), #[]⟩
noncomputable def o664 : Obj := fnL (sub 49 12) rfl "World.own_behind" .none (.str "gemrows.world" (nat_lit 1094)) (.ref 663)
noncomputable def o667 : Obj := ⟨.type "tuple", none, (.seq #[.str "self" (nat_lit 1373), .str "module" (nat_lit 1374)] 0), #[]⟩
noncomputable def o670 : Obj := ⟨.type "code", none, (.fields #[.str "root_of" (nat_lit 1370), .str "World.root_of" (nat_lit 1371), .str "/claim/cut.py" (nat_lit 1372), .int 370 0, .int 2 0, .int 0 0, .int 0 0, .int 3 0, .ref 665, .bool true, .int 181 0, .ref 666, .none, .ref 667, .ref 668, .ref 669, .int 1375 0, .int 370 0, .str "/claim/cut.py" (nat_lit 1376)]), #[]⟩
noncomputable def o671 : Obj := fnL (sub 49 13) rfl "World.root_of" .none (.str "gemrows.world" (nat_lit 1094)) (.ref 670)
noncomputable def o674 : Obj := ⟨.type "tuple", none, (.seq #[.str "self" (nat_lit 1381), .str "module" (nat_lit 1382)] 0), #[]⟩
noncomputable def o677 : Obj := ⟨.type "code", none, (.fields #[.str "real_class" (nat_lit 1378), .str "World.real_class" (nat_lit 1379), .str "/claim/cut.py" (nat_lit 1380), .int 375 0, .int 2 0, .int 0 0, .int 0 0, .int 3 0, .ref 672, .bool true, .int 181 0, .ref 673, .none, .ref 674, .ref 675, .ref 676, .int 1383 0, .int 375 0, .str "/claim/cut.py" (nat_lit 1384)]), #[]⟩
noncomputable def o678 : Obj := fnL (sub 49 14) rfl "World.real_class" .none (.str "gemrows.world" (nat_lit 1094)) (.ref 677)
noncomputable def o681 : Obj := ⟨.type "tuple", none, (.seq #[.str "self" (nat_lit 1389), .str "text" (nat_lit 1390)] 0), #[]⟩
noncomputable def o684 : Obj := ⟨.type "code", none, (.fields #[.str "text" (nat_lit 1386), .str "World.text" (nat_lit 1387), .str "/claim/cut.py" (nat_lit 1388), .int 378 0, .int 2 0, .int 0 0, .int 0 0, .int 3 0, .ref 679, .bool true, .int 181 0, .ref 680, .none, .ref 681, .ref 682, .ref 683, .int 1391 0, .int 378 0, .str "/claim/cut.py" (nat_lit 1392)]), #[]⟩
noncomputable def o685 : Obj := fnL (sub 49 15) rfl "World.text" .none (.str "gemrows.world" (nat_lit 1094)) (.ref 684)
noncomputable def o688 : Obj := ⟨.type "tuple", none, (.seq #[.str "self" (nat_lit 1397), .str "items" (nat_lit 1398)] 0), #[]⟩
noncomputable def o691 : Obj := ⟨.type "code", none, (.fields #[.str "list_of" (nat_lit 1394), .str "World.list_of" (nat_lit 1395), .str "/claim/cut.py" (nat_lit 1396), .int 381 0, .int 2 0, .int 0 0, .int 0 0, .int 3 0, .ref 686, .bool true, .int 181 0, .ref 687, .none, .ref 688, .ref 689, .ref 690, .int 1399 0, .int 381 0, .str "/claim/cut.py" (nat_lit 1400)]), #[]⟩
noncomputable def o692 : Obj := fnL (sub 49 16) rfl "World.list_of" .none (.str "gemrows.world" (nat_lit 1094)) (.ref 691)
noncomputable def o695 : Obj := ⟨.type "tuple", none, (.seq #[.str "self" (nat_lit 1405), .str "pairs" (nat_lit 1406)] 0), #[]⟩
noncomputable def o698 : Obj := ⟨.type "code", none, (.fields #[.str "table_of" (nat_lit 1402), .str "World.table_of" (nat_lit 1403), .str "/claim/cut.py" (nat_lit 1404), .int 384 0, .int 2 0, .int 0 0, .int 0 0, .int 3 0, .ref 693, .bool true, .int 181 0, .ref 694, .none, .ref 695, .ref 696, .ref 697, .int 1407 0, .int 384 0, .str "/claim/cut.py" (nat_lit 1408)]), #[]⟩
noncomputable def o699 : Obj := fnL (sub 49 17) rfl "World.table_of" .none (.str "gemrows.world" (nat_lit 1094)) (.ref 698)
noncomputable def o702 : Obj := ⟨.type "tuple", none, (.seq #[.str "self" (nat_lit 1413), .str "key" (nat_lit 1414)] 0), #[]⟩
noncomputable def o705 : Obj := ⟨.type "code", none, (.fields #[.str "key_of" (nat_lit 1410), .str "World.key_of" (nat_lit 1411), .str "/claim/cut.py" (nat_lit 1412), .int 387 0, .int 2 0, .int 0 0, .int 0 0, .int 3 0, .ref 700, .bool true, .int 181 0, .ref 701, .none, .ref 702, .ref 703, .ref 704, .int 1415 0, .int 387 0, .str "/claim/cut.py" (nat_lit 1416)]), #[]⟩
noncomputable def o706 : Obj := fnL (sub 49 18) rfl "World.key_of" .none (.str "gemrows.world" (nat_lit 1094)) (.ref 705)
noncomputable def o709 : Obj := ⟨.type "tuple", none, (.seq #[.str "self" (nat_lit 1421), .str "first" (nat_lit 1422), .str "last" (nat_lit 1423), .str "is_open" (nat_lit 1424)] 0), #[]⟩
noncomputable def o712 : Obj := ⟨.type "code", none, (.fields #[.str "range_of" (nat_lit 1418), .str "World.range_of" (nat_lit 1419), .str "/claim/cut.py" (nat_lit 1420), .int 390 0, .int 4 0, .int 0 0, .int 0 0, .int 3 0, .ref 707, .bool true, .int 181 0, .ref 708, .none, .ref 709, .ref 710, .ref 711, .int 1425 0, .int 390 0, .str "/claim/cut.py" (nat_lit 1426)]), #[]⟩
noncomputable def o713 : Obj := fnL (sub 49 19) rfl "World.range_of" .none (.str "gemrows.world" (nat_lit 1094)) (.ref 712)
noncomputable def o716 : Obj := ⟨.type "tuple", none, (.seq #[.str "self" (nat_lit 1431), .str "params" (nat_lit 1432), .str "body" (nat_lit 1433), .str "env" (nat_lit 1434), .str "self_value" (nat_lit 1435), .str "nesting" (nat_lit 1436), .str "home" (nat_lit 1437), .str "site" (nat_lit 1438), .str "is_lambda" (nat_lit 1439), .str "definer" (nat_lit 1440), .str "owner" (nat_lit 1441)] 0), #[]⟩
noncomputable def o719 : Obj := ⟨.type "code", none, (.fields #[.str "proc" (nat_lit 1428), .str "World.proc" (nat_lit 1429), .str "/claim/cut.py" (nat_lit 1430), .int 393 0, .int 10 0, .int 0 0, .int 0 0, .int 3 0, .ref 714, .bool true, .int 181 0, .ref 715, .none, .ref 716, .ref 717, .ref 718, .int 1442 0, .int 393 0, .str "/claim/cut.py" (nat_lit 1443)]), #[]⟩
noncomputable def o720 : Obj := fnL (sub 49 20) rfl "World.proc" .none (.str "gemrows.world" (nat_lit 1094)) (.ref 719)
noncomputable def o723 : Obj := ⟨.type "tuple", none, (.seq #[.str "self" (nat_lit 1448), .str "module" (nat_lit 1449), .str "root" (nat_lit 1450), .str "number" (nat_lit 1451)] 0), #[]⟩
noncomputable def o726 : Obj := ⟨.type "code", none, (.fields #[.str "thing" (nat_lit 1445), .str "World.thing" (nat_lit 1446), .str "/claim/cut.py" (nat_lit 1447), .int 397 0, .int 2 0, .int 0 0, .int 0 0, .int 3 0, .ref 721, .bool true, .int 181 0, .ref 722, .none, .ref 723, .ref 724, .ref 725, .int 1452 0, .int 397 0, .str "/claim/cut.py" (nat_lit 1453)]), #[]⟩
noncomputable def o727 : Obj := fnL (sub 49 21) rfl "World.thing" .none (.str "gemrows.world" (nat_lit 1094)) (.ref 726)
noncomputable def o730 : Obj := ⟨.type "tuple", none, (.seq #[.str "self" (nat_lit 1458), .str "module" (nat_lit 1459)] 0), #[]⟩
noncomputable def o733 : Obj := ⟨.type "code", none, (.fields #[.str "is_error_class" (nat_lit 1455), .str "World.is_error_class" (nat_lit 1456), .str "/claim/cut.py" (nat_lit 1457), .int 423 0, .int 2 0, .int 0 0, .int 0 0, .int 3 0, .ref 728, .bool true, .int 181 0, .ref 729, .none, .ref 730, .ref 731, .ref 732, .int 1460 0, .int 423 0, .str "/claim/cut.py" (nat_lit 1461)]), #[]⟩
noncomputable def o734 : Obj := fnL (sub 49 22) rfl "World.is_error_class" .none (.str "gemrows.world" (nat_lit 1094)) (.ref 733)
noncomputable def o737 : Obj := ⟨.type "tuple", none, (.seq #[.str "self" (nat_lit 1466), .str "value" (nat_lit 1467)] 0), #[]⟩
noncomputable def o740 : Obj := ⟨.type "code", none, (.fields #[.str "spread" (nat_lit 1463), .str "World.spread" (nat_lit 1464), .str "/claim/cut.py" (nat_lit 1465), .int 430 0, .int 2 0, .int 0 0, .int 0 0, .int 3 0, .ref 735, .bool true, .int 181 0, .ref 736, .none, .ref 737, .ref 738, .ref 739, .int 1468 0, .int 430 0, .str "/claim/cut.py" (nat_lit 1469)]), #[]⟩
noncomputable def o741 : Obj := fnL (sub 49 23) rfl "World.spread" .none (.str "gemrows.world" (nat_lit 1094)) (.ref 740)
noncomputable def o744 : Obj := ⟨.type "tuple", none, (.seq #[.str "self" (nat_lit 1474), .str "value" (nat_lit 1475)] 0), #[]⟩
noncomputable def o747 : Obj := ⟨.type "code", none, (.fields #[.str "numbers_of" (nat_lit 1471), .str "World.numbers_of" (nat_lit 1472), .str "/claim/cut.py" (nat_lit 1473), .int 433 0, .int 2 0, .int 0 0, .int 0 0, .int 3 0, .ref 742, .bool true, .int 181 0, .ref 743, .none, .ref 744, .ref 745, .ref 746, .int 1476 0, .int 433 0, .str "/claim/cut.py" (nat_lit 1477)]), #[]⟩
noncomputable def o748 : Obj := fnL (sub 49 24) rfl "World.numbers_of" .none (.str "gemrows.world" (nat_lit 1094)) (.ref 747)
noncomputable def o751 : Obj := ⟨.type "tuple", none, (.seq #[.str "self" (nat_lit 1482), .str "count" (nat_lit 1483)] 0), #[]⟩
noncomputable def o754 : Obj := ⟨.type "code", none, (.fields #[.str "need_size" (nat_lit 1479), .str "World.need_size" (nat_lit 1480), .str "/claim/cut.py" (nat_lit 1481), .int 436 0, .int 2 0, .int 0 0, .int 0 0, .int 3 0, .ref 749, .bool true, .int 181 0, .ref 750, .none, .ref 751, .ref 752, .ref 753, .int 1484 0, .int 436 0, .str "/claim/cut.py" (nat_lit 1485)]), #[]⟩
noncomputable def o755 : Obj := fnL (sub 49 25) rfl "World.need_size" .none (.str "gemrows.world" (nat_lit 1094)) (.ref 754)
noncomputable def o758 : Obj := ⟨.type "tuple", none, (.seq #[.str "self" (nat_lit 1490), .str "text" (nat_lit 1491)] 0), #[]⟩
noncomputable def o761 : Obj := ⟨.type "code", none, (.fields #[.str "sized_text" (nat_lit 1487), .str "World.sized_text" (nat_lit 1488), .str "/claim/cut.py" (nat_lit 1489), .int 439 0, .int 2 0, .int 0 0, .int 0 0, .int 3 0, .ref 756, .bool true, .int 181 0, .ref 757, .none, .ref 758, .ref 759, .ref 760, .int 1492 0, .int 439 0, .str "/claim/cut.py" (nat_lit 1493)]), #[]⟩
noncomputable def o762 : Obj := fnL (sub 49 26) rfl "World.sized_text" .none (.str "gemrows.world" (nat_lit 1094)) (.ref 761)
noncomputable def o765 : Obj := ⟨.type "tuple", none, (.seq #[.str "self" (nat_lit 1498), .str "name" (nat_lit 1499), .str "message" (nat_lit 1500)] 0), #[]⟩
noncomputable def o768 : Obj := ⟨.type "code", none, (.fields #[.str "error" (nat_lit 1495), .str "World.error" (nat_lit 1496), .str "/claim/cut.py" (nat_lit 1497), .int 442 0, .int 3 0, .int 0 0, .int 0 0, .int 3 0, .ref 763, .bool true, .int 181 0, .ref 764, .none, .ref 765, .ref 766, .ref 767, .int 1501 0, .int 442 0, .str "/claim/cut.py" (nat_lit 1502)]), #[]⟩
noncomputable def o769 : Obj := fnL (sub 49 27) rfl "World.error" .none (.str "gemrows.world" (nat_lit 1094)) (.ref 768)
noncomputable def o772 : Obj := ⟨.type "tuple", none, (.seq #[.str "self" (nat_lit 1507), .str "name" (nat_lit 1508), .str "message" (nat_lit 1509)] 0), #[]⟩
noncomputable def o775 : Obj := ⟨.type "code", none, (.fields #[.str "fail" (nat_lit 1504), .str "World.fail" (nat_lit 1505), .str "/claim/cut.py" (nat_lit 1506), .int 445 0, .int 3 0, .int 0 0, .int 0 0, .int 3 0, .ref 770, .bool true, .int 181 0, .ref 771, .none, .ref 772, .ref 773, .ref 774, .int 1510 0, .int 445 0, .str "/claim/cut.py" (nat_lit 1511)]), #[]⟩
noncomputable def o776 : Obj := fnL (sub 49 28) rfl "World.fail" .none (.str "gemrows.world" (nat_lit 1094)) (.ref 775)
noncomputable def o779 : Obj := ⟨.type "tuple", none, (.seq #[.str "self" (nat_lit 1516), .str "value" (nat_lit 1517)] 0), #[]⟩
noncomputable def o782 : Obj := ⟨.type "code", none, (.fields #[.str "need_thawed" (nat_lit 1513), .str "World.need_thawed" (nat_lit 1514), .str "/claim/cut.py" (nat_lit 1515), .int 448 0, .int 2 0, .int 0 0, .int 0 0, .int 3 0, .ref 777, .bool true, .int 181 0, .ref 778, .none, .ref 779, .ref 780, .ref 781, .int 1518 0, .int 448 0, .str "/claim/cut.py" (nat_lit 1519)]), #[]⟩
noncomputable def o783 : Obj := fnL (sub 49 29) rfl "World.need_thawed" .none (.str "gemrows.world" (nat_lit 1094)) (.ref 782)
noncomputable def o786 : Obj := ⟨.type "tuple", none, (.seq #[.str "self" (nat_lit 1524), .str "value" (nat_lit 1525), .str "name" (nat_lit 1526), .str "item" (nat_lit 1527)] 0), #[]⟩
noncomputable def o789 : Obj := ⟨.type "code", none, (.fields #[.str "set_field" (nat_lit 1521), .str "World.set_field" (nat_lit 1522), .str "/claim/cut.py" (nat_lit 1523), .int 451 0, .int 4 0, .int 0 0, .int 0 0, .int 3 0, .ref 784, .bool true, .int 181 0, .ref 785, .none, .ref 786, .ref 787, .ref 788, .int 1528 0, .int 451 0, .str "/claim/cut.py" (nat_lit 1529)]), #[]⟩
noncomputable def o790 : Obj := fnL (sub 49 30) rfl "World.set_field" .none (.str "gemrows.world" (nat_lit 1094)) (.ref 789)
noncomputable def o793 : Obj := ⟨.type "tuple", none, (.seq #[.str "self" (nat_lit 1534), .str "value" (nat_lit 1535)] 0), #[]⟩
noncomputable def o796 : Obj := ⟨.type "code", none, (.fields #[.str "describe" (nat_lit 1531), .str "World.describe" (nat_lit 1532), .str "/claim/cut.py" (nat_lit 1533), .int 454 0, .int 2 0, .int 0 0, .int 0 0, .int 3 0, .ref 791, .bool true, .int 181 0, .ref 792, .none, .ref 793, .ref 794, .ref 795, .int 1536 0, .int 454 0, .str "/claim/cut.py" (nat_lit 1537)]), #[]⟩
noncomputable def o797 : Obj := fnL (sub 49 31) rfl "World.describe" .none (.str "gemrows.world" (nat_lit 1094)) (.ref 796)
noncomputable def o800 : Obj := ⟨.type "tuple", none, (.seq #[.str "self" (nat_lit 1542), .str "module" (nat_lit 1543), .str "name" (nat_lit 1544)] 0), #[]⟩
noncomputable def o803 : Obj := ⟨.type "code", none, (.fields #[.str "own_constant" (nat_lit 1539), .str "World.own_constant" (nat_lit 1540), .str "/claim/cut.py" (nat_lit 1541), .int 457 0, .int 3 0, .int 0 0, .int 0 0, .int 3 0, .ref 798, .bool true, .int 181 0, .ref 799, .none, .ref 800, .ref 801, .ref 802, .int 1545 0, .int 457 0, .str "/claim/cut.py" (nat_lit 1546)]), #[]⟩
noncomputable def o804 : Obj := fnL (sub 49 32) rfl "World.own_constant" .none (.str "gemrows.world" (nat_lit 1094)) (.ref 803)
noncomputable def o807 : Obj := ⟨.type "tuple", none, (.seq #[.str "self" (nat_lit 1551), .str "nesting" (nat_lit 1552), .str "name" (nat_lit 1553)] 0), #[]⟩
noncomputable def o810 : Obj := ⟨.type "code", none, (.fields #[.str "find_constant" (nat_lit 1548), .str "World.find_constant" (nat_lit 1549), .str "/claim/cut.py" (nat_lit 1550), .int 460 0, .int 3 0, .int 0 0, .int 0 0, .int 3 0, .ref 805, .bool true, .int 181 0, .ref 806, .none, .ref 807, .ref 808, .ref 809, .int 1554 0, .int 460 0, .str "/claim/cut.py" (nat_lit 1555)]), #[]⟩
noncomputable def o811 : Obj := fnL (sub 49 33) rfl "World.find_constant" .none (.str "gemrows.world" (nat_lit 1094)) (.ref 810)
noncomputable def o814 : Obj := ⟨.type "tuple", none, (.seq #[.str "self" (nat_lit 1560), .str "nesting" (nat_lit 1561), .str "name" (nat_lit 1562)] 0), #[]⟩
noncomputable def o817 : Obj := ⟨.type "code", none, (.fields #[.str "constant" (nat_lit 1557), .str "World.constant" (nat_lit 1558), .str "/claim/cut.py" (nat_lit 1559), .int 463 0, .int 3 0, .int 0 0, .int 0 0, .int 3 0, .ref 812, .bool true, .int 181 0, .ref 813, .none, .ref 814, .ref 815, .ref 816, .int 1563 0, .int 463 0, .str "/claim/cut.py" (nat_lit 1564)]), #[]⟩
noncomputable def o818 : Obj := fnL (sub 49 34) rfl "World.constant" .none (.str "gemrows.world" (nat_lit 1094)) (.ref 817)
noncomputable def o821 : Obj := ⟨.type "tuple", none, (.seq #[.str "self" (nat_lit 1569), .str "module" (nat_lit 1570), .str "name" (nat_lit 1571)] 0), #[]⟩
noncomputable def o824 : Obj := ⟨.type "code", none, (.fields #[.str "find_in" (nat_lit 1566), .str "World.find_in" (nat_lit 1567), .str "/claim/cut.py" (nat_lit 1568), .int 466 0, .int 3 0, .int 0 0, .int 0 0, .int 3 0, .ref 819, .bool true, .int 181 0, .ref 820, .none, .ref 821, .ref 822, .ref 823, .int 1572 0, .int 466 0, .str "/claim/cut.py" (nat_lit 1573)]), #[]⟩
noncomputable def o825 : Obj := fnL (sub 49 35) rfl "World.find_in" .none (.str "gemrows.world" (nat_lit 1094)) (.ref 824)
noncomputable def o828 : Obj := ⟨.type "tuple", none, (.seq #[.str "self" (nat_lit 1578), .str "module" (nat_lit 1579), .str "name" (nat_lit 1580)] 0), #[]⟩
noncomputable def o831 : Obj := ⟨.type "code", none, (.fields #[.str "constant_in" (nat_lit 1575), .str "World.constant_in" (nat_lit 1576), .str "/claim/cut.py" (nat_lit 1577), .int 469 0, .int 3 0, .int 0 0, .int 0 0, .int 3 0, .ref 826, .bool true, .int 181 0, .ref 827, .none, .ref 828, .ref 829, .ref 830, .int 1581 0, .int 469 0, .str "/claim/cut.py" (nat_lit 1582)]), #[]⟩
noncomputable def o832 : Obj := fnL (sub 49 36) rfl "World.constant_in" .none (.str "gemrows.world" (nat_lit 1094)) (.ref 831)
noncomputable def o835 : Obj := ⟨.type "tuple", none, (.seq #[.str "self" (nat_lit 1587), .str "module" (nat_lit 1588), .str "name" (nat_lit 1589), .str "value" (nat_lit 1590)] 0), #[]⟩
noncomputable def o838 : Obj := ⟨.type "code", none, (.fields #[.str "set_constant" (nat_lit 1584), .str "World.set_constant" (nat_lit 1585), .str "/claim/cut.py" (nat_lit 1586), .int 472 0, .int 4 0, .int 0 0, .int 0 0, .int 3 0, .ref 833, .bool true, .int 181 0, .ref 834, .none, .ref 835, .ref 836, .ref 837, .int 1591 0, .int 472 0, .str "/claim/cut.py" (nat_lit 1592)]), #[]⟩
noncomputable def o839 : Obj := fnL (sub 49 37) rfl "World.set_constant" .none (.str "gemrows.world" (nat_lit 1094)) (.ref 838)
noncomputable def o840 : Obj := ⟨.type "tuple", none, (.seq #[.str "const_version" (nat_lit 1594), .str "globals" (nat_lit 1595), .str "here" (nat_lit 1596), .str "is_ready" (nat_lit 1597), .str "last_ident" (nat_lit 1598), .str "last_number" (nat_lit 1599), .str "made" (nat_lit 1600), .str "main" (nat_lit 1601), .str "most" (nat_lit 1602), .str "natives" (nat_lit 1603), .str "out" (nat_lit 1604), .str "prelude" (nat_lit 1605), .str "read" (nat_lit 1606), .str "symbol_idents" (nat_lit 1607), .str "taken" (nat_lit 1608), .str "version" (nat_lit 1609)] 0), #[]⟩
noncomputable def o841 (P : Params) : Obj := ⟨.type "dict", none, (.dict #[de P "__module__" (nat_lit 1252) (.str "gemrows.world" (nat_lit 1094)), de P "__firstlineno__" (nat_lit 1256) (.int 272 (nat_lit 1255)), de P "__init__" (nat_lit 1269) (.ref 581), de P "tick" (nat_lit 1276) (.ref 588), de P "write" (nat_lit 1284) (.ref 595), de P "number" (nat_lit 1291) (.ref 602), de P "next_ident" (nat_lit 1298) (.ref 609), de P "ident" (nat_lit 1307) (.ref 616), de P "builtin" (nat_lit 1316) (.ref 623), de P "make_builtin" (nat_lit 1322) (.ref 628), de P "give_own" (nat_lit 1330) (.ref 635), de P "new_module" (nat_lit 1345) (.ref 643), de P "class_of" (nat_lit 1353) (.ref 650), de P "own_of" (nat_lit 1361) (.ref 657), de P "own_behind" (nat_lit 1369) (.ref 664), de P "root_of" (nat_lit 1377) (.ref 671), de P "real_class" (nat_lit 1385) (.ref 678), de P "text" (nat_lit 1393) (.ref 685), de P "list_of" (nat_lit 1401) (.ref 692), de P "table_of" (nat_lit 1409) (.ref 699), de P "key_of" (nat_lit 1417) (.ref 706), de P "range_of" (nat_lit 1427) (.ref 713), de P "proc" (nat_lit 1444) (.ref 720), de P "thing" (nat_lit 1454) (.ref 727), de P "is_error_class" (nat_lit 1462) (.ref 734), de P "spread" (nat_lit 1470) (.ref 741), de P "numbers_of" (nat_lit 1478) (.ref 748), de P "need_size" (nat_lit 1486) (.ref 755), de P "sized_text" (nat_lit 1494) (.ref 762), de P "error" (nat_lit 1503) (.ref 769), de P "fail" (nat_lit 1512) (.ref 776), de P "need_thawed" (nat_lit 1520) (.ref 783), de P "set_field" (nat_lit 1530) (.ref 790), de P "describe" (nat_lit 1538) (.ref 797), de P "own_constant" (nat_lit 1547) (.ref 804), de P "find_constant" (nat_lit 1556) (.ref 811), de P "constant" (nat_lit 1565) (.ref 818), de P "find_in" (nat_lit 1574) (.ref 825), de P "constant_in" (nat_lit 1583) (.ref 832), de P "set_constant" (nat_lit 1593) (.ref 839), de P "__static_attributes__" (nat_lit 1610) (.ref 840), de P "__dict__" (nat_lit 1612) (.ref 843), de P "__weakref__" (nat_lit 1614) (.ref 844), de P "__doc__" (nat_lit 1615) .none] 4), #[]⟩
noncomputable def o842 : Obj := ⟨.type "type", none, (.cls ⟨"World", [.type "object"], [.ref 842, .type "object"], 841, "World", true, [], [], false, none, false⟩), #[none, none, some (.str "World" (nat_lit 1245)), some (.str "World" (nat_lit 1253)), some (.builtin "object.__new__"), some (.bool true)]⟩
noncomputable def o843 : Obj := ⟨.type "getset_descriptor", none, (.fields #[.str "__dict__" (nat_lit 1611), .ref 842, .builtin "function.__dict__", .builtin "function.__dict__#set"]), #[]⟩
noncomputable def o844 : Obj := ⟨.type "getset_descriptor", none, (.fields #[.str "__weakref__" (nat_lit 1613), .ref 842, .builtin "ExceptionGroup.__weakref__", .none]), #[]⟩
noncomputable def o845 : Obj := ⟨.type "super", none, (.fields #[.ref 842, .ref 842, .ref 842]), #[]⟩
noncomputable def o846 : Obj := ⟨.type "builtin_function_or_method", none, (.fields #[.builtin "object.__init_subclass__", .ref 842]), #[]⟩
noncomputable def o849 : Obj := ⟨.type "tuple", none, (.seq #[.str "script" (nat_lit 1623), .str "figures_here" (nat_lit 1624), .str "cell" (nat_lit 1625), .str "rest" (nat_lit 1626)] 0), #[]⟩
noncomputable def o852 : Obj := ⟨.type "code", none, (.fields #[.str "_law_box" (nat_lit 1620), .str "_law_box" (nat_lit 1621), .str "/claim/cut.py" (nat_lit 1622), .int 475 0, .int 1 0, .int 0 0, .int 0 0, .int 3 0, .ref 847, .bool true, .int 181 0, .ref 848, .none, .ref 849, .ref 850, .ref 851, .int 1627 0, .int 475 0, .str "/claim/cut.py" (nat_lit 1628)]), #[]⟩
noncomputable def o853 : Obj := fnL (stm 51) rfl "_law_box" .none (.str "law_pq0493_01" (nat_lit 1618)) (.ref 852)
noncomputable def o856 : Obj := ⟨.type "tuple", none, (.seq #[.str "box" (nat_lit 1633), .str "many" (nat_lit 1634)] 0), #[]⟩
noncomputable def o859 : Obj := ⟨.type "code", none, (.fields #[.str "_law_take" (nat_lit 1630), .str "_law_take" (nat_lit 1631), .str "/claim/cut.py" (nat_lit 1632), .int 484 0, .int 2 0, .int 0 0, .int 0 0, .int 3 0, .ref 854, .bool true, .int 181 0, .ref 855, .none, .ref 856, .ref 857, .ref 858, .int 1635 0, .int 484 0, .str "/claim/cut.py" (nat_lit 1636)]), #[]⟩
noncomputable def o860 : Obj := fnL (stm 52) rfl "_law_take" .none (.str "law_pq0493_01" (nat_lit 1618)) (.ref 859)
noncomputable def o863 : Obj := ⟨.type "tuple", none, (.seq #[.str "box" (nat_lit 1641), .str "single" (nat_lit 1642), .str "way" (nat_lit 1643)] 0), #[]⟩
noncomputable def o866 : Obj := ⟨.type "code", none, (.fields #[.str "_law_name" (nat_lit 1638), .str "_law_name" (nat_lit 1639), .str "/claim/cut.py" (nat_lit 1640), .int 490 0, .int 2 0, .int 0 0, .int 0 0, .int 3 0, .ref 861, .bool true, .int 181 0, .ref 862, .none, .ref 863, .ref 864, .ref 865, .int 1644 0, .int 490 0, .str "/claim/cut.py" (nat_lit 1645)]), #[]⟩
noncomputable def o867 : Obj := fnL (stm 53) rfl "_law_name" .none (.str "law_pq0493_01" (nat_lit 1618)) (.ref 866)
noncomputable def o870 : Obj := ⟨.type "tuple", none, (.seq #[.str "box" (nat_lit 1650), .str "single" (nat_lit 1651), .str "found" (nat_lit 1652), .str "turn" (nat_lit 1653)] 0), #[]⟩
noncomputable def o873 : Obj := ⟨.type "code", none, (.fields #[.str "_law_places" (nat_lit 1647), .str "_law_places" (nat_lit 1648), .str "/claim/cut.py" (nat_lit 1649), .int 496 0, .int 2 0, .int 0 0, .int 0 0, .int 3 0, .ref 868, .bool true, .int 181 0, .ref 869, .none, .ref 870, .ref 871, .ref 872, .int 1654 0, .int 496 0, .str "/claim/cut.py" (nat_lit 1655)]), #[]⟩
noncomputable def o874 : Obj := fnL (stm 54) rfl "_law_places" .none (.str "law_pq0493_01" (nat_lit 1618)) (.ref 873)
noncomputable def o877 : Obj := ⟨.type "tuple", none, (.seq #[.str "box" (nat_lit 1660), .str "single" (nat_lit 1661), .str "front" (nat_lit 1662), .str "optional" (nat_lit 1663), .str "turn" (nat_lit 1664), .str "way" (nat_lit 1665), .str "rest" (nat_lit 1666), .str "behind" (nat_lit 1667)] 0), #[]⟩
noncomputable def o880 : Obj := ⟨.type "code", none, (.fields #[.str "_law_row" (nat_lit 1657), .str "_law_row" (nat_lit 1658), .str "/claim/cut.py" (nat_lit 1659), .int 504 0, .int 2 0, .int 0 0, .int 0 0, .int 3 0, .ref 875, .bool true, .int 181 0, .ref 876, .none, .ref 877, .ref 878, .ref 879, .int 1668 0, .int 504 0, .str "/claim/cut.py" (nat_lit 1669)]), #[]⟩
noncomputable def o881 : Obj := fnL (stm 55) rfl "_law_row" .none (.str "law_pq0493_01" (nat_lit 1618)) (.ref 880)
noncomputable def o885 : Obj := ⟨.type "code", none, (.fields #[.str "_law_made" (nat_lit 1671), .str "_law_made" (nat_lit 1672), .str "/claim/cut.py" (nat_lit 1673), .int 512 0, .int 1 0, .int 0 0, .int 0 0, .int 3 0, .ref 882, .bool true, .int 181 0, .ref 883, .none, .none, .none, .ref 884, .int 1674 0, .int 512 0, .str "/claim/cut.py" (nat_lit 1675)]), #[]⟩
noncomputable def o886 : Obj := fnL (stm 56) rfl "_law_made" .none (.str "law_pq0493_01" (nat_lit 1618)) (.ref 885)
noncomputable def o889 : Obj := ⟨.type "tuple", none, (.seq #[.str "row" (nat_lit 1680), .str "front" (nat_lit 1681), .str "optional" (nat_lit 1682), .str "rest" (nat_lit 1683), .str "behind" (nat_lit 1684), .str "block" (nat_lit 1685), .str "found" (nat_lit 1686), .str "one" (nat_lit 1687)] 0), #[]⟩
noncomputable def o892 : Obj := ⟨.type "code", none, (.fields #[.str "_law_written" (nat_lit 1677), .str "_law_written" (nat_lit 1678), .str "/claim/cut.py" (nat_lit 1679), .int 518 0, .int 1 0, .int 0 0, .int 0 0, .int 3 0, .ref 887, .bool true, .int 181 0, .ref 888, .none, .ref 889, .ref 890, .ref 891, .int 1688 0, .int 518 0, .str "/claim/cut.py" (nat_lit 1689)]), #[]⟩
noncomputable def o893 : Obj := fnL (stm 57) rfl "_law_written" .none (.str "law_pq0493_01" (nat_lit 1618)) (.ref 892)
noncomputable def o896 : Obj := ⟨.type "tuple", none, (.seq #[.str "row" (nat_lit 1694), .str "args" (nat_lit 1695), .str "front" (nat_lit 1696), .str "optional" (nat_lit 1697), .str "rest" (nat_lit 1698), .str "behind" (nat_lit 1699), .str "block" (nat_lit 1700), .str "came" (nat_lit 1701), .str "found" (nat_lit 1702), .str "pairs_all" (nat_lit 1703), .str "spot" (nat_lit 1704), .str "value" (nat_lit 1705), .str "items" (nat_lit 1706)] 0), #[]⟩
noncomputable def o899 : Obj := ⟨.type "code", none, (.fields #[.str "_law_pairs" (nat_lit 1691), .str "_law_pairs" (nat_lit 1692), .str "/claim/cut.py" (nat_lit 1693), .int 524 0, .int 2 0, .int 0 0, .int 0 0, .int 3 0, .ref 894, .bool true, .int 181 0, .ref 895, .none, .ref 896, .ref 897, .ref 898, .int 1707 0, .int 524 0, .str "/claim/cut.py" (nat_lit 1708)]), #[]⟩
noncomputable def o900 : Obj := fnL (stm 58) rfl "_law_pairs" .none (.str "law_pq0493_01" (nat_lit 1618)) (.ref 899)
noncomputable def o904 : Obj := ⟨.type "code", none, (.fields #[.str "_law_is" (nat_lit 1710), .str "_law_is" (nat_lit 1711), .str "/claim/cut.py" (nat_lit 1712), .int 542 0, .int 2 0, .int 0 0, .int 0 0, .int 3 0, .ref 901, .bool true, .int 181 0, .ref 902, .none, .none, .none, .ref 903, .int 1713 0, .int 542 0, .str "/claim/cut.py" (nat_lit 1714)]), #[]⟩
noncomputable def o905 : Obj := fnL (stm 59) rfl "_law_is" .none (.str "law_pq0493_01" (nat_lit 1618)) (.ref 904)
noncomputable def o909 : Obj := ⟨.type "code", none, (.fields #[.str "_law_bound_right" (nat_lit 1716), .str "_law_bound_right" (nat_lit 1717), .str "/claim/cut.py" (nat_lit 1718), .int 547 0, .int 5 0, .int 0 0, .int 0 0, .int 3 0, .ref 906, .bool true, .int 181 0, .ref 907, .none, .none, .none, .ref 908, .int 1719 0, .int 547 0, .str "/claim/cut.py" (nat_lit 1720)]), #[]⟩
noncomputable def o910 : Obj := fnL (stm 60) rfl "_law_bound_right" .none (.str "law_pq0493_01" (nat_lit 1618)) (.ref 909)
noncomputable def o914 : Obj := ⟨.type "code", none, (.fields #[.str "law" (nat_lit 1722), .str "law" (nat_lit 1723), .str "/claim/cut.py" (nat_lit 1724), .int 566 0, .int 1 0, .int 0 0, .int 0 0, .int 3 0, .ref 911, .bool true, .int 181 0, .ref 912, .none, .none, .none, .ref 913, .int 1725 0, .int 566 0, .str "/claim/cut.py" (nat_lit 1726)]), #[]⟩
noncomputable def o915 : Obj := fnL (stm 61) rfl "law" .none (.str "law_pq0493_01" (nat_lit 1618)) (.ref 914)
noncomputable def fl (P : Params) : List Obj := [boot_o_0 P, boot_o_1 P, boot_o_2 P, o3 P, boot_o_4 P, boot_o_5 P, boot_o_6 P, boot_o_7 P, boot_o_8 P, boot_o_9 P, boot_o_10 P, o11, o12, o13, o14, o11, o16, o17, o11, tmp o21, o20, o21, o22, o23, o24 P, o11, o26, o27, o28, o29, o11, o16, o32, o11, tmp o36, o35, o36, o37, o38 P, o39, o40, o41, o42, o43, o23, o45 P, o11, o16, o48, o49, o11, o51 P, o52, o53, o54, o43, o23, o57 P, o11, o59, o60, o61, o11, o16, o64, o11, tmp o68, o67, o68, o69, o70 P, o71, o72, o73, o74 P, o11, o11, o11, o11, o11, o80, o81, o82, o83, o84, o85, o86, o87, o88, o89, o90, o91, o92 P, o93, o94, o95, o96, o97, o98, o99, o100, o101, o102, o103, o104, o105, o106, o107, o108, o109, o110 P, o111, o112, o113, o114, o115, o116, o117, o118, o119, o120, o121, o122, o123, o124, o125, o126, o127, o128 P, o129, o130, o131, o132, o133, o134, o135, o136, o137, o138, o139, o140, o11, o23, o143 P, o11, o145, o146, o147, o11, o149, o11, o16, o152, o11, tmp o156, o155, o156, o11, o16, o159, o11, tmp o163, o162, o163, o164, o165 P, o166, o167, o168, o169, o170, o11, o23, o173 P, o11, o175, o176, o177, o11, o11, o11, o181, o11, o16, o184, o11, tmp o188, o187, o188, o11, o16, o191, o11, tmp o195, o194, o195, o196, o197 P, o198, o199, o200, o201, o202, o11, o23, o205 P, o11, o207, o208, o209, o11, o16, o212, o11, tmp o216, o215, o216, o217, o218 P, o219, o220, o221, o222, o223, o224, o23, o226 P, o11, o228, o229, o230, o231, o11, o16, o234, o11, tmp o238, o237, o238, o239, o240 P, o241, o242, o243, o224, o23, o246 P, o11, o248, o249, o250, o251, o11, o16, o254, o11, tmp o258, o257, o258, o259, o260 P, o261, o262, o263, o224, o23, o266 P, o11, o268, o269, o270, o11, o16, o273, o11, tmp o277, o276, o277, o11, o16, o280, o11, tmp o284, o283, o284, o11, o16, o287, o11, tmp o291, o290, o291, o11, o16, tmp o296, o295, o296, o297, o298 P, o299, o300, o301, o224, o23, o304 P, o11, o306, o307, o308, o309, o11, o16, o312, o11, tmp o316, o315, o316, o317, o318 P, o319, o320, o321, o224, o23, o324 P, o11, o326, o327, o328, o11, o330, o11, o16, o333, o11, tmp o337, o336, o337, o338, o339 P, o340, o341, o342, o224, o23, o345 P, o11, o347, o348, o349, o251, o11, o16, o353, o11, tmp o357, o356, o357, o358, o359 P, o360, o361, o362, o224, o23, o365 P, o11, o367, o368, o369, o251, o11, o16, o373, o11, tmp o377, o376, o377, o378, o379 P, o380, o381, o382, o224, o23, o385 P, o11, o387, o388, o389, o390, o11, o16, o393, o11, tmp o397, o396, o397, o11, o16, o400, o11, tmp o404, o403, o404, o405, o406 P, o407, o408, o409, o11, o16, o412, o11, tmp o416, o415, o416, o11, o16, o419, o11, tmp o423, o422, o423, o11, o16, o426, o11, tmp o430, o429, o430, o431, o11, o16, tmp o436, o435, o436, o11, o16, o439, o11, tmp o443, o442, o443, o11, o16, o446, o11, tmp o450, o449, o450, o11, o16, o453, o11, tmp o457, o456, o457, o11, o16, o460, o11, tmp o464, o463, o464, o11, o16, o467, o11, tmp o471, o470, o471, o11, o16, o474, o11, tmp o478, o477, o478, o11, o16, o481, o11, tmp o485, o484, o485, o11, o16, tmp o490, o489, o490, o11, o16, o493, o11, tmp o497, o496, o497, o11, o16, o500, o11, tmp o504, o503, o504, o11, o16, o507, o11, tmp o511, o510, o511, o11, o16, o514, o11, tmp o518, o517, o518, o11, o16, o521, o11, tmp o525, o524, o525, o11, o16, o528, o11, tmp o532, o531, o532, o11, o16, o535, o11, tmp o539, o538, o539, o11, o16, o542, o11, tmp o546, o545, o546, o11, o16, o549, o11, tmp o553, o552, o553, o554, o555 P, o556 P, o557 P, o558 P, o559, o560, o561, o562, o563, o564, o565, o566, o11, o23, o569 P, o11, o571, o572, o573, o574, o11, o16, o577, o11, tmp o581, o580, o581, o11, o16, o584, o11, tmp o588, o587, o588, o11, o16, o591, o11, tmp o595, o594, o595, o11, o16, o598, o11, tmp o602, o601, o602, o11, o16, o605, o11, tmp o609, o608, o609, o11, o16, o612, o11, tmp o616, o615, o616, o11, o16, o619, o11, tmp o623, o622, o623, o11, o16, tmp o628, o627, o628, o11, o16, o631, o11, tmp o635, o634, o635, o636, o11, o16, o639, o11, tmp o643, o642, o643, o11, o16, o646, o11, tmp o650, o649, o650, o11, o16, o653, o11, tmp o657, o656, o657, o11, o16, o660, o11, tmp o664, o663, o664, o11, o16, o667, o11, tmp o671, o670, o671, o11, o16, o674, o11, tmp o678, o677, o678, o11, o16, o681, o11, tmp o685, o684, o685, o11, o16, o688, o11, tmp o692, o691, o692, o11, o16, o695, o11, tmp o699, o698, o699, o11, o16, o702, o11, tmp o706, o705, o706, o11, o16, o709, o11, tmp o713, o712, o713, o11, o16, o716, o11, tmp o720, o719, o720, o11, o16, o723, o11, tmp o727, o726, o727, o11, o16, o730, o11, tmp o734, o733, o734, o11, o16, o737, o11, tmp o741, o740, o741, o11, o16, o744, o11, tmp o748, o747, o748, o11, o16, o751, o11, tmp o755, o754, o755, o11, o16, o758, o11, tmp o762, o761, o762, o11, o16, o765, o11, tmp o769, o768, o769, o11, o16, o772, o11, tmp o776, o775, o776, o11, o16, o779, o11, tmp o783, o782, o783, o11, o16, o786, o11, tmp o790, o789, o790, o11, o16, o793, o11, tmp o797, o796, o797, o11, o16, o800, o11, tmp o804, o803, o804, o11, o16, o807, o11, tmp o811, o810, o811, o11, o16, o814, o11, tmp o818, o817, o818, o11, o16, o821, o11, tmp o825, o824, o825, o11, o16, o828, o11, tmp o832, o831, o832, o11, o16, o835, o11, tmp o839, o838, o839, o840, o841 P, o842, o843, o844, o845, o846, o11, o16, o849, o11, tmp o853, o852, o853, o11, o16, o856, o11, tmp o860, o859, o860, o11, o16, o863, o11, tmp o867, o866, o867, o11, o16, o870, o11, tmp o874, o873, o874, o11, o16, o877, o11, tmp o881, o880, o881, o11, o16, tmp o886, o885, o886, o11, o16, o889, o11, tmp o893, o892, o893, o11, o16, o896, o11, tmp o900, o899, o900, o11, o16, tmp o905, o904, o905, o11, o16, tmp o910, o909, o910, o11, o16, tmp o915, o914, o915]
noncomputable def hd.heap_39 : Params → Frag := fun P => (nat_lit 2, boot_o_2 P) :: (nat_lit 3, o3 P) :: (nat_lit 15, o11) :: (nat_lit 17, o17) :: (nat_lit 18, o11) :: (nat_lit 20, o20) :: (nat_lit 21, o21) :: (nat_lit 22, o22) :: (nat_lit 29, o29) :: (nat_lit 30, o11) :: (nat_lit 32, o32) :: (nat_lit 33, o11) :: (nat_lit 35, o35) :: (nat_lit 36, o36) :: (nat_lit 37, o37) :: (nat_lit 38, o38 P) :: (nat_lit 39, o39) :: (nat_lit 40, o40) :: (nat_lit 43, o43) :: (nat_lit 50, o11) :: (nat_lit 51, o51 P) :: (nat_lit 52, o52) :: (nat_lit 55, o43) :: (nat_lit 62, o11) :: (nat_lit 64, o64) :: (nat_lit 65, o11) :: (nat_lit 67, o67) :: (nat_lit 68, o68) :: (nat_lit 69, o69) :: (nat_lit 70, o70 P) :: (nat_lit 71, o71) :: (nat_lit 74, o74 P) :: (nat_lit 75, o11) :: (nat_lit 76, o11) :: (nat_lit 77, o11) :: (nat_lit 78, o11) :: (nat_lit 79, o11) :: (nat_lit 80, o80) :: (nat_lit 81, o81) :: (nat_lit 82, o82) :: (nat_lit 83, o83) :: (nat_lit 84, o84) :: (nat_lit 85, o85) :: (nat_lit 86, o86) :: (nat_lit 87, o87) :: (nat_lit 88, o88) :: (nat_lit 89, o89) :: (nat_lit 90, o90) :: (nat_lit 91, o91) :: (nat_lit 93, o93) :: (nat_lit 94, o94) :: (nat_lit 95, o95) :: (nat_lit 96, o96) :: (nat_lit 97, o97) :: (nat_lit 98, o98) :: (nat_lit 99, o99) :: (nat_lit 100, o100) :: (nat_lit 101, o101) :: (nat_lit 102, o102) :: (nat_lit 103, o103) :: (nat_lit 104, o104) :: (nat_lit 105, o105) :: (nat_lit 106, o106) :: (nat_lit 107, o107) :: (nat_lit 108, o108) :: (nat_lit 109, o109) :: (nat_lit 111, o111) :: (nat_lit 112, o112) :: (nat_lit 113, o113) :: (nat_lit 114, o114) :: (nat_lit 115, o115) :: (nat_lit 116, o116) :: (nat_lit 117, o117) :: (nat_lit 118, o118) :: (nat_lit 119, o119) :: (nat_lit 120, o120) :: (nat_lit 121, o121) :: (nat_lit 122, o122) :: (nat_lit 123, o123) :: (nat_lit 124, o124) :: (nat_lit 125, o125) :: (nat_lit 126, o126) :: (nat_lit 127, o127) :: (nat_lit 129, o129) :: (nat_lit 130, o130) :: (nat_lit 131, o131) :: (nat_lit 132, o132) :: (nat_lit 133, o133) :: (nat_lit 134, o134) :: (nat_lit 135, o135) :: (nat_lit 136, o136) :: (nat_lit 137, o137) :: (nat_lit 138, o138) :: (nat_lit 139, o139) :: (nat_lit 140, o140) :: (nat_lit 148, o11) :: (nat_lit 149, o149) :: (nat_lit 150, o11) :: (nat_lit 152, o152) :: (nat_lit 153, o11) :: (nat_lit 155, o155) :: (nat_lit 156, o156) :: (nat_lit 157, o11) :: (nat_lit 159, o159) :: (nat_lit 160, o11) :: (nat_lit 162, o162) :: (nat_lit 163, o163) :: (nat_lit 164, o164) :: (nat_lit 165, o165 P) :: (nat_lit 166, o166) :: (nat_lit 167, o167) :: (nat_lit 168, o168) :: (nat_lit 178, o11) :: (nat_lit 179, o11) :: (nat_lit 180, o11) :: (nat_lit 181, o181) :: (nat_lit 182, o11) :: (nat_lit 184, o184) :: (nat_lit 185, o11) :: (nat_lit 187, o187) :: (nat_lit 188, o188) :: (nat_lit 189, o11) :: (nat_lit 191, o191) :: (nat_lit 192, o11) :: (nat_lit 194, o194) :: (nat_lit 195, o195) :: (nat_lit 196, o196) :: (nat_lit 197, o197 P) :: (nat_lit 198, o198) :: (nat_lit 199, o199) :: (nat_lit 200, o200) :: (nat_lit 210, o11) :: (nat_lit 212, o212) :: (nat_lit 213, o11) :: (nat_lit 215, o215) :: (nat_lit 216, o216) :: (nat_lit 217, o217) :: (nat_lit 218, o218 P) :: (nat_lit 219, o219) :: (nat_lit 220, o220) :: (nat_lit 221, o221) :: (nat_lit 224, o224) :: (nat_lit 231, o231) :: (nat_lit 232, o11) :: (nat_lit 234, o234) :: (nat_lit 235, o11) :: (nat_lit 237, o237) :: (nat_lit 238, o238) :: (nat_lit 239, o239) :: (nat_lit 240, o240 P) :: (nat_lit 241, o241) :: (nat_lit 244, o224) :: (nat_lit 251, o251) :: (nat_lit 252, o11) :: (nat_lit 254, o254) :: (nat_lit 255, o11) :: (nat_lit 257, o257) :: (nat_lit 258, o258) :: (nat_lit 259, o259) :: (nat_lit 260, o260 P) :: (nat_lit 261, o261) :: (nat_lit 264, o224) :: (nat_lit 271, o11) :: (nat_lit 273, o273) :: (nat_lit 274, o11) :: (nat_lit 276, o276) :: (nat_lit 277, o277) :: (nat_lit 278, o11) :: (nat_lit 280, o280) :: (nat_lit 281, o11) :: (nat_lit 283, o283) :: (nat_lit 284, o284) :: (nat_lit 285, o11) :: (nat_lit 287, o287) :: (nat_lit 288, o11) :: (nat_lit 290, o290) :: (nat_lit 291, o291) :: (nat_lit 292, o11) :: (nat_lit 295, o295) :: (nat_lit 296, o296) :: (nat_lit 297, o297) :: (nat_lit 298, o298 P) :: (nat_lit 299, o299) :: (nat_lit 302, o224) :: (nat_lit 309, o309) :: (nat_lit 310, o11) :: (nat_lit 312, o312) :: (nat_lit 313, o11) :: (nat_lit 315, o315) :: (nat_lit 316, o316) :: (nat_lit 317, o317) :: (nat_lit 318, o318 P) :: (nat_lit 319, o319) :: (nat_lit 322, o224) :: (nat_lit 329, o11) :: (nat_lit 330, o330) :: (nat_lit 331, o11) :: (nat_lit 333, o333) :: (nat_lit 334, o11) :: (nat_lit 336, o336) :: (nat_lit 337, o337) :: (nat_lit 338, o338) :: (nat_lit 339, o339 P) :: (nat_lit 340, o340) :: (nat_lit 343, o224) :: (nat_lit 350, o251) :: (nat_lit 351, o11) :: (nat_lit 353, o353) :: (nat_lit 354, o11) :: (nat_lit 356, o356) :: (nat_lit 357, o357) :: (nat_lit 358, o358) :: (nat_lit 359, o359 P) :: (nat_lit 360, o360) :: (nat_lit 363, o224) :: (nat_lit 370, o251) :: (nat_lit 371, o11) :: (nat_lit 373, o373) :: (nat_lit 374, o11) :: (nat_lit 376, o376) :: (nat_lit 377, o377) :: (nat_lit 378, o378) :: (nat_lit 379, o379 P) :: (nat_lit 380, o380) :: (nat_lit 383, o224) :: (nat_lit 390, o390) :: (nat_lit 391, o11) :: (nat_lit 393, o393) :: (nat_lit 394, o11) :: (nat_lit 396, o396) :: (nat_lit 397, o397) :: (nat_lit 398, o11) :: (nat_lit 400, o400) :: (nat_lit 401, o11) :: (nat_lit 403, o403) :: (nat_lit 404, o404) :: (nat_lit 405, o405) :: (nat_lit 406, o406 P) :: (nat_lit 407, o407) :: (nat_lit 410, o11) :: (nat_lit 412, o412) :: (nat_lit 413, o11) :: (nat_lit 415, o415) :: (nat_lit 416, o416) :: (nat_lit 417, o11) :: (nat_lit 419, o419) :: (nat_lit 420, o11) :: (nat_lit 422, o422) :: (nat_lit 423, o423) :: (nat_lit 424, o11) :: (nat_lit 426, o426) :: (nat_lit 427, o11) :: (nat_lit 429, o429) :: (nat_lit 430, o430) :: (nat_lit 431, o431) :: (nat_lit 432, o11) :: (nat_lit 435, o435) :: (nat_lit 436, o436) :: (nat_lit 437, o11) :: (nat_lit 439, o439) :: (nat_lit 440, o11) :: (nat_lit 442, o442) :: (nat_lit 443, o443) :: (nat_lit 444, o11) :: (nat_lit 446, o446) :: (nat_lit 447, o11) :: (nat_lit 449, o449) :: (nat_lit 450, o450) :: (nat_lit 451, o11) :: (nat_lit 453, o453) :: (nat_lit 454, o11) :: (nat_lit 456, o456) :: (nat_lit 457, o457) :: (nat_lit 458, o11) :: (nat_lit 460, o460) :: (nat_lit 461, o11) :: (nat_lit 463, o463) :: (nat_lit 464, o464) :: (nat_lit 465, o11) :: (nat_lit 467, o467) :: (nat_lit 468, o11) :: (nat_lit 470, o470) :: (nat_lit 471, o471) :: (nat_lit 472, o11) :: (nat_lit 474, o474) :: (nat_lit 475, o11) :: (nat_lit 477, o477) :: (nat_lit 478, o478) :: (nat_lit 479, o11) :: (nat_lit 481, o481) :: (nat_lit 482, o11) :: (nat_lit 484, o484) :: (nat_lit 485, o485) :: (nat_lit 486, o11) :: (nat_lit 489, o489) :: (nat_lit 490, o490) :: (nat_lit 491, o11) :: (nat_lit 493, o493) :: (nat_lit 494, o11) :: (nat_lit 496, o496) :: (nat_lit 497, o497) :: (nat_lit 498, o11) :: (nat_lit 500, o500) :: (nat_lit 501, o11) :: (nat_lit 503, o503) :: (nat_lit 504, o504) :: (nat_lit 505, o11) :: (nat_lit 507, o507) :: (nat_lit 508, o11) :: (nat_lit 510, o510) :: (nat_lit 511, o511) :: (nat_lit 512, o11) :: (nat_lit 514, o514) :: (nat_lit 515, o11) :: (nat_lit 517, o517) :: (nat_lit 518, o518) :: (nat_lit 519, o11) :: (nat_lit 521, o521) :: (nat_lit 522, o11) :: (nat_lit 524, o524) :: (nat_lit 525, o525) :: (nat_lit 526, o11) :: (nat_lit 528, o528) :: (nat_lit 529, o11) :: (nat_lit 531, o531) :: (nat_lit 532, o532) :: (nat_lit 533, o11) :: (nat_lit 535, o535) :: (nat_lit 536, o11) :: (nat_lit 538, o538) :: (nat_lit 539, o539) :: (nat_lit 540, o11) :: (nat_lit 542, o542) :: (nat_lit 543, o11) :: (nat_lit 545, o545) :: (nat_lit 546, o546) :: (nat_lit 547, o11) :: (nat_lit 549, o549) :: (nat_lit 550, o11) :: (nat_lit 552, o552) :: (nat_lit 553, o553) :: (nat_lit 554, o554) :: (nat_lit 555, o555 P) :: (nat_lit 558, o558 P) :: (nat_lit 559, o559) :: (nat_lit 560, o560) :: (nat_lit 561, o561) :: (nat_lit 562, o562) :: (nat_lit 563, o563) :: (nat_lit 564, o564) :: (nat_lit 565, o565) :: (nat_lit 566, o566) :: (nat_lit 574, o574) :: (nat_lit 575, o11) :: (nat_lit 577, o577) :: (nat_lit 578, o11) :: (nat_lit 580, o580) :: (nat_lit 581, o581) :: (nat_lit 582, o11) :: (nat_lit 584, o584) :: (nat_lit 585, o11) :: (nat_lit 587, o587) :: (nat_lit 588, o588) :: (nat_lit 589, o11) :: (nat_lit 591, o591) :: (nat_lit 592, o11) :: (nat_lit 594, o594) :: (nat_lit 595, o595) :: (nat_lit 596, o11) :: (nat_lit 598, o598) :: (nat_lit 599, o11) :: (nat_lit 601, o601) :: (nat_lit 602, o602) :: (nat_lit 603, o11) :: (nat_lit 605, o605) :: (nat_lit 606, o11) :: (nat_lit 608, o608) :: (nat_lit 609, o609) :: (nat_lit 610, o11) :: (nat_lit 612, o612) :: (nat_lit 613, o11) :: (nat_lit 615, o615) :: (nat_lit 616, o616) :: (nat_lit 617, o11) :: (nat_lit 619, o619) :: (nat_lit 620, o11) :: (nat_lit 622, o622) :: (nat_lit 623, o623) :: (nat_lit 624, o11) :: (nat_lit 627, o627) :: (nat_lit 628, o628) :: (nat_lit 629, o11) :: (nat_lit 631, o631) :: (nat_lit 632, o11) :: (nat_lit 634, o634) :: (nat_lit 635, o635) :: (nat_lit 636, o636) :: (nat_lit 637, o11) :: (nat_lit 639, o639) :: (nat_lit 640, o11) :: (nat_lit 642, o642) :: (nat_lit 643, o643) :: (nat_lit 644, o11) :: (nat_lit 646, o646) :: (nat_lit 647, o11) :: (nat_lit 649, o649) :: (nat_lit 650, o650) :: (nat_lit 651, o11) :: (nat_lit 653, o653) :: (nat_lit 654, o11) :: (nat_lit 656, o656) :: (nat_lit 657, o657) :: (nat_lit 658, o11) :: (nat_lit 660, o660) :: (nat_lit 661, o11) :: (nat_lit 663, o663) :: (nat_lit 664, o664) :: (nat_lit 665, o11) :: (nat_lit 667, o667) :: (nat_lit 668, o11) :: (nat_lit 670, o670) :: (nat_lit 671, o671) :: (nat_lit 672, o11) :: (nat_lit 674, o674) :: (nat_lit 675, o11) :: (nat_lit 677, o677) :: (nat_lit 678, o678) :: (nat_lit 679, o11) :: (nat_lit 681, o681) :: (nat_lit 682, o11) :: (nat_lit 684, o684) :: (nat_lit 685, o685) :: (nat_lit 686, o11) :: (nat_lit 688, o688) :: (nat_lit 689, o11) :: (nat_lit 691, o691) :: (nat_lit 692, o692) :: (nat_lit 693, o11) :: (nat_lit 695, o695) :: (nat_lit 696, o11) :: (nat_lit 698, o698) :: (nat_lit 699, o699) :: (nat_lit 700, o11) :: (nat_lit 702, o702) :: (nat_lit 703, o11) :: (nat_lit 705, o705) :: (nat_lit 706, o706) :: (nat_lit 707, o11) :: (nat_lit 709, o709) :: (nat_lit 710, o11) :: (nat_lit 712, o712) :: (nat_lit 713, o713) :: (nat_lit 714, o11) :: (nat_lit 716, o716) :: (nat_lit 717, o11) :: (nat_lit 719, o719) :: (nat_lit 720, o720) :: (nat_lit 721, o11) :: (nat_lit 723, o723) :: (nat_lit 724, o11) :: (nat_lit 726, o726) :: (nat_lit 727, o727) :: (nat_lit 728, o11) :: (nat_lit 730, o730) :: (nat_lit 731, o11) :: (nat_lit 733, o733) :: (nat_lit 734, o734) :: (nat_lit 735, o11) :: (nat_lit 737, o737) :: (nat_lit 738, o11) :: (nat_lit 740, o740) :: (nat_lit 741, o741) :: (nat_lit 742, o11) :: (nat_lit 744, o744) :: (nat_lit 745, o11) :: (nat_lit 747, o747) :: (nat_lit 748, o748) :: (nat_lit 749, o11) :: (nat_lit 751, o751) :: (nat_lit 752, o11) :: (nat_lit 754, o754) :: (nat_lit 755, o755) :: (nat_lit 756, o11) :: (nat_lit 758, o758) :: (nat_lit 759, o11) :: (nat_lit 761, o761) :: (nat_lit 762, o762) :: (nat_lit 763, o11) :: (nat_lit 765, o765) :: (nat_lit 766, o11) :: (nat_lit 768, o768) :: (nat_lit 769, o769) :: (nat_lit 770, o11) :: (nat_lit 772, o772) :: (nat_lit 773, o11) :: (nat_lit 775, o775) :: (nat_lit 776, o776) :: (nat_lit 777, o11) :: (nat_lit 779, o779) :: (nat_lit 780, o11) :: (nat_lit 782, o782) :: (nat_lit 783, o783) :: (nat_lit 784, o11) :: (nat_lit 786, o786) :: (nat_lit 787, o11) :: (nat_lit 789, o789) :: (nat_lit 790, o790) :: (nat_lit 791, o11) :: (nat_lit 793, o793) :: (nat_lit 794, o11) :: (nat_lit 796, o796) :: (nat_lit 797, o797) :: (nat_lit 798, o11) :: (nat_lit 800, o800) :: (nat_lit 801, o11) :: (nat_lit 803, o803) :: (nat_lit 804, o804) :: (nat_lit 805, o11) :: (nat_lit 807, o807) :: (nat_lit 808, o11) :: (nat_lit 810, o810) :: (nat_lit 811, o811) :: (nat_lit 812, o11) :: (nat_lit 814, o814) :: (nat_lit 815, o11) :: (nat_lit 817, o817) :: (nat_lit 818, o818) :: (nat_lit 819, o11) :: (nat_lit 821, o821) :: (nat_lit 822, o11) :: (nat_lit 824, o824) :: (nat_lit 825, o825) :: (nat_lit 826, o11) :: (nat_lit 828, o828) :: (nat_lit 829, o11) :: (nat_lit 831, o831) :: (nat_lit 832, o832) :: (nat_lit 833, o11) :: (nat_lit 835, o835) :: (nat_lit 836, o11) :: (nat_lit 838, o838) :: (nat_lit 839, o839) :: (nat_lit 840, o840) :: (nat_lit 841, o841 P) :: (nat_lit 842, o842) :: (nat_lit 843, o843) :: (nat_lit 844, o844) :: (nat_lit 847, o11) :: (nat_lit 849, o849) :: (nat_lit 850, o11) :: (nat_lit 852, o852) :: (nat_lit 853, o853) :: (nat_lit 854, o11) :: (nat_lit 856, o856) :: (nat_lit 857, o11) :: (nat_lit 859, o859) :: (nat_lit 860, o860) :: (nat_lit 861, o11) :: (nat_lit 863, o863) :: (nat_lit 864, o11) :: (nat_lit 866, o866) :: (nat_lit 867, o867) :: (nat_lit 868, o11) :: (nat_lit 870, o870) :: (nat_lit 871, o11) :: (nat_lit 873, o873) :: (nat_lit 874, o874) :: (nat_lit 875, o11) :: (nat_lit 877, o877) :: (nat_lit 878, o11) :: (nat_lit 880, o880) :: (nat_lit 881, o881) :: (nat_lit 882, o11) :: (nat_lit 885, o885) :: (nat_lit 886, o886) :: (nat_lit 887, o11) :: (nat_lit 889, o889) :: (nat_lit 890, o11) :: (nat_lit 892, o892) :: (nat_lit 893, o893) :: (nat_lit 894, o11) :: (nat_lit 896, o896) :: (nat_lit 897, o11) :: (nat_lit 899, o899) :: (nat_lit 900, o900) :: (nat_lit 901, o11) :: (nat_lit 904, o904) :: (nat_lit 905, o905) :: (nat_lit 906, o11) :: (nat_lit 909, o909) :: (nat_lit 910, o910) :: (nat_lit 911, o11) :: (nat_lit 914, o914) :: (nat_lit 915, o915) :: []
noncomputable def kas : List Addr := [2, 3, 15, 17, 18, 20, 21, 22, 29, 30, 32, 33, 35, 36, 37, 38, 39, 40, 43, 50, 51, 52, 55, 62, 64, 65, 67, 68, 69, 70, 71, 74, 75, 76, 77, 78, 79, 80, 81, 82, 83, 84, 85, 86, 87, 88, 89, 90, 91, 93, 94, 95, 96, 97, 98, 99, 100, 101, 102, 103, 104, 105, 106, 107, 108, 109, 111, 112, 113, 114, 115, 116, 117, 118, 119, 120, 121, 122, 123, 124, 125, 126, 127, 129, 130, 131, 132, 133, 134, 135, 136, 137, 138, 139, 140, 148, 149, 150, 152, 153, 155, 156, 157, 159, 160, 162, 163, 164, 165, 166, 167, 168, 178, 179, 180, 181, 182, 184, 185, 187, 188, 189, 191, 192, 194, 195, 196, 197, 198, 199, 200, 210, 212, 213, 215, 216, 217, 218, 219, 220, 221, 224, 231, 232, 234, 235, 237, 238, 239, 240, 241, 244, 251, 252, 254, 255, 257, 258, 259, 260, 261, 264, 271, 273, 274, 276, 277, 278, 280, 281, 283, 284, 285, 287, 288, 290, 291, 292, 295, 296, 297, 298, 299, 302, 309, 310, 312, 313, 315, 316, 317, 318, 319, 322, 329, 330, 331, 333, 334, 336, 337, 338, 339, 340, 343, 350, 351, 353, 354, 356, 357, 358, 359, 360, 363, 370, 371, 373, 374, 376, 377, 378, 379, 380, 383, 390, 391, 393, 394, 396, 397, 398, 400, 401, 403, 404, 405, 406, 407, 410, 412, 413, 415, 416, 417, 419, 420, 422, 423, 424, 426, 427, 429, 430, 431, 432, 435, 436, 437, 439, 440, 442, 443, 444, 446, 447, 449, 450, 451, 453, 454, 456, 457, 458, 460, 461, 463, 464, 465, 467, 468, 470, 471, 472, 474, 475, 477, 478, 479, 481, 482, 484, 485, 486, 489, 490, 491, 493, 494, 496, 497, 498, 500, 501, 503, 504, 505, 507, 508, 510, 511, 512, 514, 515, 517, 518, 519, 521, 522, 524, 525, 526, 528, 529, 531, 532, 533, 535, 536, 538, 539, 540, 542, 543, 545, 546, 547, 549, 550, 552, 553, 554, 555, 558, 559, 560, 561, 562, 563, 564, 565, 566, 574, 575, 577, 578, 580, 581, 582, 584, 585, 587, 588, 589, 591, 592, 594, 595, 596, 598, 599, 601, 602, 603, 605, 606, 608, 609, 610, 612, 613, 615, 616, 617, 619, 620, 622, 623, 624, 627, 628, 629, 631, 632, 634, 635, 636, 637, 639, 640, 642, 643, 644, 646, 647, 649, 650, 651, 653, 654, 656, 657, 658, 660, 661, 663, 664, 665, 667, 668, 670, 671, 672, 674, 675, 677, 678, 679, 681, 682, 684, 685, 686, 688, 689, 691, 692, 693, 695, 696, 698, 699, 700, 702, 703, 705, 706, 707, 709, 710, 712, 713, 714, 716, 717, 719, 720, 721, 723, 724, 726, 727, 728, 730, 731, 733, 734, 735, 737, 738, 740, 741, 742, 744, 745, 747, 748, 749, 751, 752, 754, 755, 756, 758, 759, 761, 762, 763, 765, 766, 768, 769, 770, 772, 773, 775, 776, 777, 779, 780, 782, 783, 784, 786, 787, 789, 790, 791, 793, 794, 796, 797, 798, 800, 801, 803, 804, 805, 807, 808, 810, 811, 812, 814, 815, 817, 818, 819, 821, 822, 824, 825, 826, 828, 829, 831, 832, 833, 835, 836, 838, 839, 840, 841, 842, 843, 844, 847, 849, 850, 852, 853, 854, 856, 857, 859, 860, 861, 863, 864, 866, 867, 868, 870, 871, 873, 874, 875, 877, 878, 880, 881, 882, 885, 886, 887, 889, 890, 892, 893, 894, 896, 897, 899, 900, 901, 904, 905, 906, 909, 910, 911, 914, 915]
noncomputable def setV : List DictEntry → Value → List DictEntry
  | [], _ => []
  | e :: r, v => ⟨e.hash, e.key, v⟩ :: r
noncomputable def cutD : Obj → Nat → Value → Obj
  | ⟨c, d, .dict es _, s⟩, n, v => ⟨c, d, .dict (setV (es.toList.take n) v).toArray n, s⟩
  | x, _, _ => x
noncomputable def cutF : Obj → Nat → Obj
  | ⟨c, d, .fields vs, s⟩, n => ⟨c, d, .fields (vs.toList.take n).toArray, s⟩
  | x, _ => x
noncomputable def mid (P : Params) (n k : Nat) (v : Value) (f : Nat) : List Obj := (((fl P).take n).set 3 (cutD (o3 P) k v)).set 12 (cutF o12 f)
noncomputable def odds : List Obj → List Obj
  | [] => []
  | [x] => [x]
  | x :: _ :: l => x :: odds l
noncomputable def evens : List Obj → List Obj
  | [] => []
  | [_] => []
  | _ :: y :: l => y :: evens l
noncomputable def bt : Nat → List Obj → BT
  | 0, _ => .nil
  | _ + 1, [] => .nil
  | n + 1, x :: l => .node x (bt n (odds l)) (bt n (evens l))
noncomputable def envT : Env := { scope := pg.main.scope, locals := mainNs, globals := mainNs, cells := [], code := .ref 13, frame := some 14 }
noncomputable def cT : Code := .body (behindTheImports pg) envT
noncomputable def sl (i j : Nat) : List Stmt := ((behindTheImports pg).drop i).take (j - i)
noncomputable def p0 : Pos := ⟨0, 0, 0, 0⟩
noncomputable def sh (l : List Obj) (n t : Nat) (os : OsState) : SharedT := ⟨bt 11 l, n, {}, #[], {}, t, os⟩
noncomputable abbrev Piece (i j N : Nat) (m1 : Params → List Obj) (n1 t1 : Nat) (q1 : Pos) (m2 : Params → List Obj) (n2 t2 : Nat) (q2 : Pos) (w : World) : Prop :=
  (fun os => segRunT treeTable pg w 11 (some (.ref 6)) 1 N (sh (m1 w.params) n1 t1 os) (piecesOf (sl i j) envT cT q1 [topFrame p0])) = fun os => some (Flow.next, sh (m2 w.params) n2 t2 os, cT, q2)
noncomputable def m0 (P : Params) : List Obj := mid P 15 9 (.str "__main__" 164) 0
noncomputable def m1 (P : Params) : List Obj := mid P 74 13 (.str "gemrows.nodes" 265) 12
noncomputable def m2 (P : Params) : List Obj := mid P 141 14 (.str "gemrows.nodes" 265) 12
noncomputable def m3 (P : Params) : List Obj := mid P 203 18 (.str "gemrows.things" 584) 18
noncomputable def m4 (P : Params) : List Obj := mid P 410 27 (.str "gemrows.things" 584) 45
noncomputable def m5 (P : Params) : List Obj := mid P 555 49 (.str "gemrows.world" 1094) 108
noncomputable def m6 (P : Params) : List Obj := mid P 567 52 (.str "gemrows.world" 1094) 108
noncomputable def m7 (P : Params) : List Obj := fl P
theorem pieces (w : World) : (Piece 0 6 726 m0 15 187 ⟨0, 0, 0, 0⟩ m1 74 267 ⟨17, 0, 17, 8⟩ w) ∧ (Piece 7 12 559 m2 141 497 ⟨18, 0, 18, 6⟩ m3 203 590 ⟨44, 0, 44, 9⟩ w) ∧ (Piece 12 21 2376 m3 203 590 ⟨44, 0, 44, 9⟩ m4 410 909 ⟨113, 0, 130, 40⟩ w) := by refine ⟨?_, ?_, ?_⟩ <;> kernel_rfl
theorem piece0 (w : World) : Piece 0 6 726 m0 15 187 ⟨0, 0, 0, 0⟩ m1 74 267 ⟨17, 0, 17, 8⟩ w := (pieces w).1
theorem piece1f (w : World) : Piece 6 7 1419 m1 74 267 ⟨17, 0, 17, 8⟩ m2 141 497 ⟨18, 0, 18, 6⟩ (w.withFollow "special-get-raises" false) := by kernel_rfl
theorem piece1t (w : World) : Piece 6 7 1419 m1 74 267 ⟨17, 0, 17, 8⟩ m2 141 497 ⟨18, 0, 18, 6⟩ (w.withFollow "special-get-raises" true) := by kernel_rfl
theorem piece1 (w : World) : Piece 6 7 1419 m1 74 267 ⟨17, 0, 17, 8⟩ m2 141 497 ⟨18, 0, 18, 6⟩ w := byRow2 "special-get-raises" (P := Piece 6 7 1419 m1 74 267 ⟨17, 0, 17, 8⟩ m2 141 497 ⟨18, 0, 18, 6⟩) piece1f piece1t w
theorem piece2 (w : World) : Piece 7 12 559 m2 141 497 ⟨18, 0, 18, 6⟩ m3 203 590 ⟨44, 0, 44, 9⟩ w := (pieces w).2.1
theorem piece3 (w : World) : Piece 12 21 2376 m3 203 590 ⟨44, 0, 44, 9⟩ m4 410 909 ⟨113, 0, 130, 40⟩ w := (pieces w).2.2
theorem piece4 (w : World) : Piece 21 46 683 m4 410 909 ⟨113, 0, 130, 40⟩ m5 555 1100 ⟨268, 0, 268, 7⟩ w := by kernel_rfl
theorem piece5f (w : World) : Piece 46 49 903 m5 555 1100 ⟨268, 0, 268, 7⟩ m6 567 1245 ⟨271, 0, 271, 6⟩ (w.withFollow "special-get-raises" false) := by kernel_rfl
theorem piece5t (w : World) : Piece 46 49 903 m5 555 1100 ⟨268, 0, 268, 7⟩ m6 567 1245 ⟨271, 0, 271, 6⟩ (w.withFollow "special-get-raises" true) := by kernel_rfl
theorem piece5 (w : World) : Piece 46 49 903 m5 555 1100 ⟨268, 0, 268, 7⟩ m6 567 1245 ⟨271, 0, 271, 6⟩ w := byRow2 "special-get-raises" (P := Piece 46 49 903 m5 555 1100 ⟨268, 0, 268, 7⟩ m6 567 1245 ⟨271, 0, 271, 6⟩) piece5f piece5t w
theorem piece6 (w : World) : Piece 49 62 1806 m6 567 1245 ⟨271, 0, 271, 6⟩ m7 916 1728 ⟨566, 0, 580, 15⟩ w := by kernel_rfl
end Mine
end
section
namespace Mine
set_option maxRecDepth 100000
set_option maxHeartbeats 0
noncomputable def q : Program := view pg [0, 2, 3, 4, 6, 7, 8, 10, 11, 12, 13, 14, 15, 16, 17, 18, 19, 20, 21, 22, 23, 25, 27, 28, 29, 30, 31, 32, 33, 34, 35, 36, 37, 38, 40, 41, 42, 43, 45, 46, 47, 48, 49, 51, 52, 53, 54, 55, 56, 57, 58, 59, 60, 61]
noncomputable def loose : List Str := ["GemError", "FIELDS", "Node", "Params", "Text", "ListThing", "RangeThing", "ProcThing", "ErrorThing", "FiberThing", "ModuleThing", "code_of", "BUILTINS", "MIXED"]
noncomputable def H1 (P : Params) : Heap := ⟨(fl P).toArray, {}⟩
noncomputable def H0 (P : Params) : Heap := ⟨(m0 P).toArray, {}⟩
noncomputable def sB (w : World) (os : OsState) : Shared := ⟨boot_heap w.params, #[], boot_drawn, boot_toks, os⟩
noncomputable def s1 (w : World) (os : OsState) : Shared := ⟨H1 w.params, #[], {}, 1728, os⟩
theorem pre1 (w : World) : (fun os => topGo treeTable pg w 11 (some (.ref 6)) 12 (sB w os) (topStub pg)) = fun os => some ((⟨H0 w.params, #[], {}, 187, os⟩ : Shared), ⟨denote treeTable cT, cT, p0, [topFrame p0]⟩) := by kernel_rfl
theorem block1 (w : World) : (fun os => segRun treeTable pg w 11 (some (.ref 6)) 1 1 (⟨H0 w.params, #[], {}, 187, os⟩ : Shared) (blockOf (behindTheImports pg) envT cT p0 [topFrame p0])) = fun os => some (Flow.next, (sh (m0 w.params) 15 187 os).abs, cT, p0) := by kernel_rfl
theorem fin1 (w : World) : (fun os => topRun treeTable pg w 11 (some (.ref 6)) 2 (sh (m7 w.params) 916 1728 os).abs ⟨doneF .next, cT, ⟨566, 0, 580, 15⟩, [topFrame p0]⟩) = fun os => some (s1 w os) := by kernel_rfl
theorem cells1 : behindTheImports pg = sl 0 6 ++ (sl 6 7 ++ (sl 7 12 ++ (sl 12 21 ++ (sl 21 46 ++ (sl 46 49 ++ (sl 49 62 ++ [])))))) := by kernel_rfl
theorem run1 (w : World) (os : OsState) : topRun treeTable pg w 11 (some (.ref 6)) (12 + (1 + (726 + (1419 + (559 + (2376 + (683 + (903 + (1806 + 2))))))))) (sB w os) (topStub pg) = some (s1 w os) := by
  refine go_top (congrFun (pre1 w) os) (piece_block (congrFun (block1 w) os) ?_)
  rw [cells1]
  exact piece_app (segRun_of (congrFun (piece0 w) os)) (piece_app (segRun_of (congrFun (piece1 w) os)) (piece_app (segRun_of (congrFun (piece2 w) os)) (piece_app (segRun_of (congrFun (piece3 w) os))
    (piece_app (segRun_of (congrFun (piece4 w) os)) (piece_app (segRun_of (congrFun (piece5 w) os)) (piece_app (segRun_of (congrFun (piece6 w) os)) (piece_nil (congrFun (fin1 w) os))))))))
abbrev rw0 : OpenRow := PySem.Challenge.rw_pq0493_01.row
noncomputable abbrev Xt0 (s : Shared) : Bool := xlAt q [] s && recOk (RowW.records rw0.toRowW) s
theorem size1 (w : World) : ((boot_heap w.params).isNs mainGlobals && (#[] : Array GenState).size == 0, (boot_heap w.params).objs.size, (boot_heap w.params).nsMap mainGlobals "__annotations__") = (true, 11, some (.ref 6)) := by kernel_rfl
theorem lk1 (w : World) (os : OsState) : (staticsOk (importedModules pg.main.body) (boot_heap w.params) (H1 w.params) && namesBound pg (H1 w.params) && gensDone (s1 w os) && laidKept (boot_heap w.params) (H1 w.params)) = true := by kernel_rfl
theorem lks (w : World) (os : OsState) : (seen ((recsOf q).map (·.name)) (ownsOf q) [] { s1 w os with gens := #[] } = expectedOf q) ∧ (((s1 w os).heap.keysOk (looseW q loose) ((recsOf q).map (·.name)) ((litsOf q).map (·.1)) ((clssOf q (looseW q loose)).map (·.name)) && (s1 w os).heap.accountedOkI (importedModules pg.main.body) && (s1 w os).heap.isNs mainGlobals && (s1 w os).heap.isNs builtinsNs && tablesOk q (s1 w os).heap && Xt0 (s1 w os) && (if true then (s1 w os).gens.size == 0 else !leftWithCleanup (s1 w os).gens)) = true) ∧ (tabsOk q (s1 w os) = true) ∧ (plainSeenE q (looseW q loose) (s1 w os) = plainGoodE q (looseW q loose)) ∧ (plainSeenD q loose (s1 w os) = plainGoodD q loose) ∧ (wideSeen q (s1 w os) = wideGood q) ∧ (clsSeenW q loose (s1 w os) = clsGoodW q loose) := by refine ⟨?_, ?_, ?_, ?_, ?_, ?_, ?_⟩ <;> kernel_rfl
theorem lk2 (w : World) (os : OsState) : seen ((recsOf q).map (·.name)) (ownsOf q) [] { s1 w os with gens := #[] } = expectedOf q := (lks w os).1
theorem lk3 (w : World) (os : OsState) : (s1 w os).heap.bltView = bltViewBooted := by kernel_rfl
theorem lk4 (w : World) (os : OsState) : ((s1 w os).heap.keysOk (looseW q loose) ((recsOf q).map (·.name)) ((litsOf q).map (·.1)) ((clssOf q (looseW q loose)).map (·.name)) && (s1 w os).heap.accountedOkI (importedModules pg.main.body) && (s1 w os).heap.isNs mainGlobals && (s1 w os).heap.isNs builtinsNs && tablesOk q (s1 w os).heap && Xt0 (s1 w os) && (if true then (s1 w os).gens.size == 0 else !leftWithCleanup (s1 w os).gens)) = true := (lks w os).2.1
theorem lk5 (w : World) (os : OsState) : tabsOk q (s1 w os) = true := (lks w os).2.2.1
theorem lk6 (w : World) (os : OsState) : pinSeenD q (drecsOf q) (s1 w os) = pinGoodD (drecsOf q) := by kernel_rfl
theorem lk7 (w : World) (os : OsState) : plainSeenE q (looseW q loose) (s1 w os) = plainGoodE q (looseW q loose) := (lks w os).2.2.2.1
theorem lk8 (w : World) (os : OsState) : plainSeenD q loose (s1 w os) = plainGoodD q loose := (lks w os).2.2.2.2.1
theorem lk9 (w : World) (os : OsState) : wideSeen q (s1 w os) = wideGood q := (lks w os).2.2.2.2.2.1
theorem lk10 (w : World) (os : OsState) : clsSeenW q loose (s1 w os) = clsGoodW q loose := (lks w os).2.2.2.2.2.2
noncomputable def asc : Nat → List Nat → Bool
  | _, [] => true
  | i, a :: as => Nat.ble i a && asc (a + 1) as
noncomputable def wk : List Obj → Nat → List Nat → List (Option Obj)
  | [], _, as => as.map fun _ => none
  | _ :: _, _, [] => []
  | x :: l, i, a :: as => bif Nat.beq a i then some x :: wk l (i + 1) as else wk l (i + 1) (a :: as)
theorem asc_le : ∀ {as : List Nat} {i : Nat}, asc i as = true → ∀ b ∈ as, i ≤ b
  | [], _, _, _, hb => nomatch hb
  | a :: as, i, h, b, hb => by
    simp only [asc, Bool.and_eq_true] at h
    rcases List.mem_cons.mp hb with rfl | hb
    · exact Nat.le_of_ble_eq_true h.1
    · have := asc_le h.2 b hb
      have := Nat.le_of_ble_eq_true h.1
      omega
theorem wk_step (x : Obj) (l : List Obj) (i : Nat) (as : List Nat) (h : ∀ b ∈ as, i + 1 ≤ b) : as.map (fun a => (x :: l)[a - i]?) = as.map (fun a => l[a - (i + 1)]?) := by
  refine List.map_congr_left fun b hb => ?_
  rw [← Nat.sub_add_cancel (h b hb), Nat.add_comm i 1, ← Nat.add_assoc, Nat.add_sub_cancel, Nat.add_assoc, Nat.add_sub_cancel, List.getElem?_cons_succ]
theorem wk_eq : ∀ (l : List Obj) (i : Nat) (as : List Nat), asc i as = true → wk l i as = as.map (fun a => l[a - i]?)
  | [], i, as, _ => by simp only [wk, List.getElem?_nil]
  | x :: l, i, [], _ => rfl
  | x :: l, i, a :: as, h => by
    have hh := h
    simp only [asc, Bool.and_eq_true] at hh
    have h1 := Nat.le_of_ble_eq_true hh.1
    cases e : Nat.beq a i with
    | true =>
      have e' := Nat.eq_of_beq_eq_true e
      subst e'
      simp only [wk, e, cond_true, List.map_cons, Nat.sub_self, List.getElem?_cons_zero]
      rw [wk_eq l (a + 1) as hh.2, wk_step x l a as (asc_le hh.2)]
    | false =>
      have hn : a ≠ i := Nat.ne_of_beq_eq_false e
      have h2 : asc (i + 1) (a :: as) = true := by simp only [asc, Bool.and_eq_true]; exact ⟨Nat.ble_eq.mpr (Nat.lt_of_le_of_ne h1 (Ne.symm hn)), hh.2⟩
      simp only [wk, e, cond_false]
      rw [wk_eq l (i + 1) (a :: as) h2, wk_step x l i (a :: as) (asc_le h2)]
theorem kas_eq (P : Params) : kas = (hd.heap_39 P).map (·.1) := by kernel_rfl
noncomputable abbrev HK : Hook := kHook hd.heap_39 kas kas_eq
theorem asc1 : asc 0 kas = true := by decide +kernel
noncomputable def nf : Option Obj → Option Obj := fun x => match x with
  | some ⟨_, _, .freed, _⟩ => none
  | o => o
theorem get_nf (h : Heap) (a : Nat) : h.get? a = nf (h.objs[a]?) := rfl
theorem wk1 (w : World) : (wk (fl w.params) 0 kas).map nf = HK.val w := by kernel_rfl
theorem obs1 (w : World) (os : OsState) : HK.obs (s1 w os) = kas.map (s1 w os).heap.get? := rfl
theorem lk11 (w : World) (os : OsState) : HK.obs (s1 w os) = HK.val w := by
  rw [obs1, ← wk1, wk_eq (fl w.params) 0 kas asc1, List.map_map]
  refine List.map_congr_left fun a _ => ?_
  rw [get_nf, Function.comp_apply, Nat.sub_zero]
  exact congrArg nf List.getElem?_toArray
theorem seen1 (w : World) (os : OsState) : openSeen q loose (importedModules pg.main.body) Xt0 true (s1 w os) = openGood q loose := by
  unfold openSeen openGood
  rw [lk2, lk3, lk4, lk5, lk6, lk7, lk8, lk9, lk10]
theorem le1 : Nat.ble (12 + (1 + (726 + (1419 + (559 + (2376 + (683 + (903 + (1806 + 2))))))))) 17056 = true := by decide
theorem opens1 : opening pg = plainProg pg.main.scope.names := by kernel_rfl
theorem fence1 (s : Shared) : fenceModules? pg s = some s := by kernel_rfl
theorem left1 : LeftO pg q loose Xt0 HK.obs HK.val 17056 true :=
  LeftO.of_pieces (H₀ := boot_heap) (H₁ := H1) (boot_open opens1 (by decide) fence1) size1 run1 le1 fun w => funext fun os => looks_pair (lk1 w os) (looks_pair (seen1 w os) (lk11 w os))
theorem andB2 {x y : Bool} (a : x = true) (b : y = true) : (x && y) = true := by rw [a, b]; rfl
theorem said1 : OpenLaw.wellSaid PySem.Challenge.rw_pq0493_01 = true := by
  unfold OpenLaw.wellSaid OpenRow.wellSaid OpenRow.partSaid looksOpen
  repeat' (with_reducible refine andB2 ?_ ?_)
  all_goals decide +kernel
theorem ok1 : (chainsOk q && opensWell rw0.prog && (frees rw0.toRowW && rw0.within.isEmpty)) = true := by decide +kernel
theorem tabs1 : rw0.prog.tablesWhole = true := by decide +kernel
end Mine
end
section
namespace Mine
set_option maxRecDepth 100000
set_option maxHeartbeats 0
theorem wit1 : rw0.toRowW.promised := ⟨[WData.list []], by decide +kernel, by decide +kernel⟩
@[reducible] noncomputable def recL {n : Str} {ps : Arguments} {b : List Stmt} {ds : List Expr} {ret : Option Expr} {tps : List TypeParam} {sc : Scope} {tsc : Option Scope} {bd : Str} {pos : Pos} (st : Stmt)
  (_ : st = .FunctionDef n ps b ds ret tps sc tsc bd pos) : DefRec := ⟨n, ps, b, sc, pos⟩
noncomputable abbrev dlaw : DefRec := recL (stm 61) rfl
theorem def1 : defOf q rw0.name = some (dlaw, []) := by kernel_rfl
theorem def2 : rw0.prog.theDef rw0.name = some (dlaw.params, dlaw.body, dlaw.scope) := by kernel_rfl
theorem def3 : kwWritten? dlaw.params.kwonlyargs dlaw.params.kw_defaults = some [] := by kernel_rfl
theorem hd (call : WalkO q loose (XL q []) HK.says rw0.toRowW dlaw [] fun f vs => PySem.call f vs) : PySem.Challenge.rw_pq0493_01.Holds :=
  holds_law said1 fun said => holds_open (r := rw0) (q := q) (loose := loose) (Xt := Xt0) (XP := XL q []) (Yf := HK.obs) (Ya := HK.val) (YP := HK.says) (N := 17056) left1 HK.of HK.keeps
    (fun s e => xl_of s (Bool.and_eq_true_iff.mp e).1) XL.keeps def1 def2 def3 (fun s e => recFacts_of (Bool.and_eq_true_iff.mp e).2) (by rfl) said ok1 ⟨rfl, rfl, rfl, rfl, rfl, tabs1⟩ wit1 call
end Mine
end
section
namespace Mine
abbrev PG : Program := PySem.Challenge.rw_pq0493_01.row.prog
abbrev Led := List (Addr × Obj)
def Ext (Z Z' : Led) : Prop := ∀ q ∈ Z, q ∈ Z'
theorem Ext.refl {Z : Led} : Ext Z Z := fun _ h => h
theorem Ext.trans {Z Z' Z'' : Led} (a : Ext Z Z') (b : Ext Z' Z'') : Ext Z Z'' := fun _ h => b _ (a _ h)
theorem Ext.mem {Z Z' : Led} {p : Addr × Obj} (a : Ext Z Z') (h : p ∈ Z) : p ∈ Z' := a _ h
theorem Ext.cons {Z Z' : Led} {p : Addr × Obj} (a : Ext Z Z') : Ext Z (p :: Z') := fun _ h => List.mem_cons_of_mem _ (a _ h)
theorem Ext.app {Z Z' E : Led} (a : Ext Z Z') : Ext Z (E ++ Z') := fun _ h => List.mem_append_right _ (a _ h)
theorem Ext.consL {Z Z' : Led} {p : Addr × Obj} (h : p ∈ Z') (a : Ext Z Z') : Ext (p :: Z) Z' := fun q hq => by
  rcases List.mem_cons.mp hq with rfl | hq
  · exact h
  · exact a _ hq
def OffAll : Led → Led → Prop
  | [], _ => True
  | p :: r, Z => (∀ q ∈ Z, q.1 ≠ p.1) ∧ OffAll r Z
inductive Pick (d : Addr) (o : Obj) : Led → Led → Prop
  | head {r} : Pick d o ((d, o) :: r) r
  | tail {p r r'} : Pick d o r r' → Pick d o (p :: r) (p :: r')
theorem Pick.sub {d : Addr} {o : Obj} {n r : Led} (P : Pick d o n r) : ∀ p ∈ (d, o) :: r, p ∈ n := by
  induction P with
  | head => exact fun p h => h
  | tail _ ih =>
    intro p h
    rcases List.mem_cons.mp h with rfl | h
    · exact List.mem_cons_of_mem _ (ih _ List.mem_cons_self)
    · rcases List.mem_cons.mp h with rfl | h
      · exact List.mem_cons_self
      · exact List.mem_cons_of_mem _ (ih _ (List.mem_cons_of_mem _ h))
theorem offLt {x : Addr} : ∀ {Z : Led}, AllLt x Z → ∀ q ∈ Z, q.1 ≠ x
  | [], _, _, h => nomatch h
  | _ :: _, x, q, h => by
    rcases List.mem_cons.mp h with rfl | h
    · exact Nat.ne_of_lt x.1
    · exact offLt x.2 q h
section
variable {prog : Program} {w : World} {A : Around} {E : Value → Shared → Prop} {s : Shared} {h₀ h h' : Heap} {L D : Addr} {m : Str → Option Value} {news news' : Led}
theorem nsub (N : News h₀ L h news) (hs : Ext news' news) : News h₀ L h news' := fun p hp => N p (hs p hp)
theorem set_K {its its' : Array Value} {n : Nat} {k : Int} {t : Tok} {v : Value} {Q : Unit → Shared → Prop} (F : Fr h₀ L s.heap m) (N : News h₀ L s.heap news) (U : Upd D (PySem.W.listOf its n) (PySem.W.listOf its' n) news news')
    (h0 : 0 ≤ k) (hfit : k < 2 ^ 63) (hn : k < its.size) (he : its.setIfInBounds k.toNat v = its')
    (h : ∀ h', Fr h₀ L h' m → News h₀ L h' news' → Q () { s with heap := h' }) : wpAny (model prog w) A (setItem (.ref D) (.int k t) v) Q E s := by
  obtain ⟨pre, post, rfl, rfl, a, b⟩ := U.split
  have z := N (D, PySem.W.listOf its n) (List.mem_append.mpr (.inr (.head _)))
  subst he
  exact ki_setAt z.1 h0 hfit hn (h _ (F.change (Heap.SameBut.update ..) z.2.1 z.2.2) (ki_turn _ N a b rfl (by simp)))
end
inductive BoxOk (Z : Led) (o : Obj) (c : Nat) : Prop
  | mk (figs : Addr) (vs : List Value) (ds : List Int) (n n2 : Nat) (pos cnt sum : Int) (t1 t2 t3 : Tok) (e : o = PySem.W.listOf #[.ref figs, .int pos t1, .int cnt t2, .int sum t3] n) (b : (figs, PySem.W.listOf vs.toArray n2) ∈ Z) (d : IntsAre vs ds) (e1 : 0 ≤ pos) (e2 : 0 ≤ cnt) (e3 : cnt + (c : Int) < 10000) (e4 : 0 ≤ sum) (e5 : ds.length < 1000)
theorem BoxOk.mono {Z Z' : Led} {o : Obj} {c c' : Nat} (h : BoxOk Z o c) (e : Ext Z Z') (hc : c' ≤ c) : BoxOk Z' o c' := by
  obtain ⟨figs, vs, ds, n, n2, pos, cnt, sum, t1, t2, t3, a, b, d, e1, e2, e3, e4, e5⟩ := h
  exact ⟨figs, vs, ds, n, n2, pos, cnt, sum, t1, t2, t3, a, e _ b, d, e1, e2, by lia, e4, e5⟩
inductive SgOk (o : Obj) (c : Nat) : Prop
  | mk (its : Array Value) (n : Nat) (e : o = PySem.W.listOf its n) (l : its.size + c < 10000)
theorem SgOk.mono {o : Obj} {c c' : Nat} (h : SgOk o c) (hc : c' ≤ c) : SgOk o c' := by
  obtain ⟨its, n, a, b⟩ := h
  exact ⟨its, n, a, by lia⟩
end Mine
namespace Mine
section
variable {prog : Program} {w : World} {A : Around} {E : Value → Shared → Prop} {s : Shared} {h₀ h h' : Heap} {L D : Addr} {m : Str → Option Value} {news news' : Led}
theorem item_pickS {value slice : PySem.Expr} {l : Addr} {vs : List Value} {k : Int} {u : Tok} {Q : Value → Shared → Prop} (hl : s.heap.IsList l vs.toArray)
    (hv : ∀ v ∈ vs, ∃ x t, v = .str x t ∧ x.length ≤ 20000) (h0 : 0 ≤ k) (h1 : k < vs.length) (hfit : k < 2 ^ 63) (h : ∀ x t, x.length ≤ 20000 → Q (.str x t) s)
    (hs : subscripted slice false (.ref l) (.int k u) = operate [.ref l, .int k u] (getItem (.ref l) (.int k u)) := by with_unfolding_all rfl) :
    wpAny (model prog w) A (subscriptTail value slice (.ref l) (.int k u)) Q E s := by
  have hk : k.toNat < vs.length := by lia
  obtain ⟨x, t, e, hx⟩ := hv _ (List.getElem_mem hk)
  refine tail_any hl.typeIs slot_list_getitem.lookup (wpAny_getItem_list hl h0 hfit (x := .str x t) ?_ (h x t hx)) hs
  simp [hk, e]
theorem item_last {value slice : PySem.Expr} {l : Addr} {its : Array Value} {v : Value} {u : Tok} {Q : Value → Shared → Prop} (hl : s.heap.IsList l (its.push v)) (h : Q v s)
    (hs : subscripted slice false (.ref l) (.int (-1) u) = operate [.ref l, .int (-1) u] (getItem (.ref l) (.int (-1) u)) := by with_unfolding_all rfl) :
    wpAny (model prog w) A (subscriptTail value slice (.ref l) (.int (-1) u)) Q E s := by
  refine tail_any hl.typeIs slot_list_getitem.lookup (wpAny_getItem_list_neg hl (by decide) ?_ (by decide) (x := v) ?_ h) hs
  · simp only [Array.size_push]; lia
  · have e : ((-1 : Int) + ((its.push v).size : Int)).toNat = its.size := by simp only [Array.size_push]; lia
    rw [e]; simp
end
end Mine
namespace Mine
def Stp (P : Prop) : Prop := P
theorem Stp.out {P : Prop} (h : Stp P) : P := h
theorem Stp.in {P : Prop} (h : P) : Stp P := h
def TurnZ (h₀ : Heap) (L : Addr) (Jn : (Str → Option Value) → Led → Prop) (I : Addr) (io : Obj) (Q : Flow → Shared → Prop) (s₁ : Shared) (f : Flow) (s₂ : Shared) : Prop :=
  match f with
  | .ret v => Q (.ret v) s₂
  | .brk => Q .next s₂
  | _ => ∃ h' tk m' news', s₂ = { s₁ with heap := h', toks := tk } ∧ Fr h₀ L h' m' ∧ News h₀ L h' ((I, io) :: news') ∧ (∀ p ∈ news', p.1 ≠ I) ∧ Jn m' news'
theorem TurnZ.intro {h₀ : Heap} {L : Addr} {Jn : (Str → Option Value) → Led → Prop} {I : Addr} {io : Obj} {Q : Flow → Shared → Prop} {s₁ : Shared} {h' : Heap} {tk : Nat} {m' : Str → Option Value} {all : Led}
    (F : Fr h₀ L h' m') (N : News h₀ L h' all) (news' : Led) (hs : Ext ((I, io) :: news') all) (hI : ∀ p ∈ news', p.1 ≠ I) (hJ : Jn m' news') : TurnZ h₀ L Jn I io Q s₁ .next { s₁ with heap := h', toks := tk } :=
  ⟨h', tk, m', news', rfl, F, nsub N hs, hI, hJ⟩
section
variable {prog : Program} {w : World} {A : Around} {E : Value → Shared → Prop} {s : Shared} {env : Env} {h₀ : Heap} {x : Str} {body : List Stmt} {Q : Flow → Shared → Prop}
theorem loopZ {I : Addr} {fp : List Addr} {n : Nat} {P : Nat → Value → Prop} {St : Nat → Heap → Prop} {m₀ : Str → Option Value} {news : Led} (J : Nat → (Str → Option Value) → Led → Prop)
    (W : Walks prog w A I fp [I] n P St) (hLf : env.locals ∉ fp) (hI : h₀.get? I = none) (hoff : ∀ p ∈ news, p.1 ≠ I) (hst : St 0 s.heap) (hSI : ∀ i h, St i h → ∃ o, h.get? I = some o)
    (hfp : ∀ b ∈ fp, b = I ∨ ∃ o, ∀ i m₁ news₁, J i m₁ news₁ → (b, o) ∈ news₁)
    (F : Fr h₀ env.locals s.heap m₀) (N : News h₀ env.locals s.heap news) (J0 : J 0 m₀ news)
    (turn : ∀ i v m₁ news₁ io h tk, i < n → P i v → J i m₁ news₁ → (∀ p ∈ news₁, p.1 ≠ I) → Fr h₀ env.locals h (fun y => if y = x then some v else m₁ y) → News h₀ env.locals h ((I, io) :: news₁) →
      wpAny (model prog w) A (execs body env) (TurnZ h₀ env.locals (J (i + 1)) I io Q { s with heap := h, toks := tk }) E { s with heap := h, toks := tk })
    (done : ∀ m₁ news₁ h tk, J n m₁ news₁ → Fr h₀ env.locals h m₁ → News h₀ env.locals h news₁ → Q .next { s with heap := h, toks := tk }) :
    LoopAtV prog w A h₀ env x body Q E (.ref I) s := by
  refine ⟨I, fp, [I], n, P, St, m₀, news, J, rfl, W, hLf, ?_, ?_, hst, F, N, J0, ?_, ?_⟩
  · intro b hb; rw [List.mem_singleton.mp hb]; exact hI
  · intro p hp hm; exact hoff p hp (List.mem_singleton.mp hm)
  · rintro i v m₁ news₁ s₁ own ⟨hh', tk', rfl⟩ hin hP hJ hoff₁ hown hget hall hst' F₁ N₁
    have hoff2 : ∀ p ∈ news₁, p.1 ≠ I := fun p hp e => hoff₁ p hp (List.mem_singleton.mpr e)
    obtain ⟨io, hio⟩ := hSI _ _ hst'
    have hmI := hall I (W.sub I (List.mem_singleton.mpr rfl)) hI io hio
    have N₂ : News h₀ env.locals hh' ((I, io) :: news₁) := fun p hp => by
      rcases List.mem_cons.mp hp with rfl | hp
      · exact N₁ _ (List.mem_append_left _ hmI)
      · exact N₁ _ (List.mem_append_right _ hp)
    refine wpAny_mono (turn i v m₁ news₁ io hh' tk' hin hP hJ hoff2 F₁ N₂) (fun f s₂ p => ?_) fun _ _ e => e
    have fin : (∃ h' tk m' news', s₂ = { s with heap := h', toks := tk } ∧ Fr h₀ env.locals h' m' ∧ News h₀ env.locals h' ((I, io) :: news') ∧ (∀ p ∈ news', p.1 ≠ I) ∧ J (i + 1) m' news') →
        LoopStepU h₀ env.locals [I] own (J (i + 1)) { s with heap := hh', toks := tk' } .next s₂ := by
      rintro ⟨h', tk, m', news', rfl, F', N', ho, hJ'⟩
      refine ⟨rfl, h', tk, m', news', rfl, F', fun p hp => ?_, fun p hp hm => ho p hp (List.mem_singleton.mp hm), hJ'⟩
      rcases List.mem_append.mp hp with hp | hp
      · rcases hfp p.1 (hown p hp) with e | hj
        · have h2 : hh'.get? p.1 = some p.2 := hget p hp
          have h3 : p = (I, io) := by
            rw [e, hio] at h2
            exact Prod.ext e (Option.some.inj h2).symm
          rw [h3]; exact N' _ List.mem_cons_self
        · obtain ⟨o, hj⟩ := hj
          have ho' := hj i m₁ news₁ hJ
          have h1 : hh'.get? p.1 = some o := (N₂ _ (List.mem_cons_of_mem _ ho')).1
          have h2 : hh'.get? p.1 = some p.2 := hget p hp
          rw [h1] at h2
          have h3 : p = (p.1, o) := Prod.ext rfl (Option.some.inj h2).symm
          rw [h3]
          exact N' _ (List.mem_cons_of_mem _ (hj _ _ _ hJ'))
      · exact N' _ (List.mem_cons_of_mem _ hp)
    cases f with
    | ret v => exact .ret p
    | brk => exact .brk p
    | next => exact .next (fin p)
    | cont => exact .cont (fin p)
  · rintro h' tk m' news' F' N' _ hJ
    exact done m' news' h' tk hJ F' N'

theorem iterZ_range {r : Addr} {b : Int} {t₀ u₀ v₀ : Tok} {m₀ : Str → Option Value} {news : Led} (n : Nat) (J : Nat → (Str → Option Value) → Led → Prop)
    (hh : A.handled = none) (hr : IsRange s.heap r 0 b 1 t₀ u₀ v₀) (hb : b < 100000) (hb0 : -100000 < b) (hn : n = b.toNat) (F : Fr h₀ env.locals s.heap m₀) (N : News h₀ env.locals s.heap news) (J0 : J 0 m₀ news)
    (turn : ∀ i t m₁ news₁ I io h tk, i < n → J i m₁ news₁ → (∀ p ∈ news₁, p.1 ≠ I) → Fr h₀ env.locals h (fun y => if y = x then some (.int (i : Nat) t) else m₁ y) → News h₀ env.locals h ((I, io) :: news₁) →
      wpAny (model prog w) A (execs body env) (TurnZ h₀ env.locals (J (i + 1)) I io Q { s with heap := h, toks := tk }) E { s with heap := h, toks := tk })
    (done : ∀ m₁ news₁ h tk, J n m₁ news₁ → Fr h₀ env.locals h m₁ → News h₀ env.locals h news₁ → Q .next { s with heap := h, toks := tk }) :
    wpAny (model prog w) A (pyIter (.ref r)) (fun it s₂ => LoopAtV prog w A h₀ env x body Q E it s₂) E s := by
  subst hn
  have hsz : Builtin.Range.rangeSize 0 b 1 = (b.toNat : Int) := by rw [rangeSize_one]; split <;> lia
  refine wpAny_pyIter_range hr (small_one (by decide) (by decide) (by lia) (by lia)) ?_
  have W : Walks prog w A s.heap.objs.size [s.heap.objs.size] [s.heap.objs.size] b.toNat (fun i v => i < b.toNat ∧ ∃ t, v = .int (0 + i * 1) t)
      (fun i h => IsRangeIter h s.heap.objs.size (0 + (i : Nat) * 1) ((b.toNat : Int) - (i : Nat)) 1) := (Walks.range hh _ 0 1 b.toNat).bound
  refine loopZ (s := { s with heap := s.heap.push _ }) J W ?_ (next_is_new F) (fun p hp => Nat.ne_of_lt (Heap.lt_size (N p hp).1)) (by show IsRangeIter _ _ _ _ _; rw [hsz]; simpa using Heap.get?_push_size _ rfl) (fun i h st => ⟨_, st⟩) (fun c hc => .inl (List.mem_singleton.mp hc)) (F.push _)
    (fun p hp => ⟨Heap.get?_push_of_some _ (N p hp).1, (N p hp).2⟩) J0 ?_ done
  · intro hm
    exact absurd F.ns.lt ((List.mem_singleton.mp hm) ▸ Nat.lt_irrefl _)
  · rintro i v m₁ news₁ io h tk hi ⟨_, t, rfl⟩ hJ ho F₁ N₁
    rw [show (0 : Int) + (i : Int) * 1 = (i : Int) by lia] at F₁
    exact turn i t m₁ news₁ _ io h tk hi hJ ho F₁ N₁

theorem iterZ_list {l : Addr} {vs : List Value} {nl : Nat} {m₀ : Str → Option Value} {news : Led} (J : Nat → (Str → Option Value) → Led → Prop)
    (hh : A.handled = none) (hl : ∀ i m n, J i m n → (l, PySem.W.listOf vs.toArray nl) ∈ n) (F : Fr h₀ env.locals s.heap m₀) (N : News h₀ env.locals s.heap news) (J0 : J 0 m₀ news)
    (turn : ∀ i v m₁ news₁ I io h tk, vs[i]? = some v → J i m₁ news₁ → (∀ p ∈ news₁, p.1 ≠ I) → Fr h₀ env.locals h (fun y => if y = x then some v else m₁ y) → News h₀ env.locals h ((I, io) :: news₁) →
      wpAny (model prog w) A (execs body env) (TurnZ h₀ env.locals (J (i + 1)) I io Q { s with heap := h, toks := tk }) E { s with heap := h, toks := tk })
    (done : ∀ m₁ news₁ h tk, J vs.length m₁ news₁ → Fr h₀ env.locals h m₁ → News h₀ env.locals h news₁ → Q .next { s with heap := h, toks := tk }) :
    wpAny (model prog w) A (pyIter (.ref l)) (fun it s₂ => LoopAtV prog w A h₀ env x body Q E it s₂) E s := by
  have hm := hl _ _ _ J0
  have hls : s.heap.IsList l vs.toArray := News.isList N hm
  have hlt : l < s.heap.objs.size := Heap.lt_size (N _ hm).1
  refine wpAny_pyIter_list hls ?_
  have W := Walks.list (prog := prog) (w := w) hh s.heap.objs.size l (Nat.ne_of_lt hlt) vs.toArray
  rw [List.size_toArray] at W
  refine loopZ (s := { s with heap := s.heap.push _ }) J W ?_ (next_is_new F) (fun p hp => Nat.ne_of_lt (Heap.lt_size (N p hp).1)) ⟨⟨_, Heap.get?_push_size _ rfl, rfl, rfl⟩, hls.at fun o e => Heap.get?_push_of_some _ e⟩
    (fun i h st => by obtain ⟨o, e, _⟩ := st.1; exact ⟨o, e⟩) ?_ (F.push _) (fun p hp => ⟨Heap.get?_push_of_some _ (N p hp).1, (N p hp).2⟩) J0 ?_ done
  · intro hm'
    rcases List.mem_cons.mp hm' with e | hm'
    · exact absurd F.ns.lt (e ▸ Nat.lt_irrefl _)
    · exact (N _ hm).2.1 (List.mem_singleton.mp hm').symm
  · intro b hb
    rcases List.mem_cons.mp hb with e | hb
    · exact .inl e
    · rw [List.mem_singleton.mp hb]; exact .inr ⟨_, hl⟩
  · rintro i v m₁ news₁ io h tk hi hP hJ ho F₁ N₁
    exact turn i v m₁ news₁ _ io h tk (by simpa using hP) hJ ho F₁ N₁
end
end Mine
namespace Mine
theorem Ext.appl {Z E : Led} : Ext Z (E ++ Z) := fun _ h => List.mem_append_right _ h
theorem Ext.appr {Z E : Led} : Ext E (E ++ Z) := fun _ h => List.mem_append_left _ h
theorem Ext.appL {Z E Y : Led} (h : Ext E Y) (h' : Ext Z Y) : Ext (E ++ Z) Y := fun q hq => (List.mem_append.mp hq).elim (h q) (h' q)
theorem off_cons {x : Addr} {p : Addr × Obj} {Z : Led} (h : @Ne Nat p.1 x) (h' : ∀ q ∈ Z, q.1 ≠ x) : ∀ q ∈ p :: Z, q.1 ≠ x := List.forall_mem_cons.mpr ⟨h, h'⟩
theorem offAll_mem {Z : Led} : ∀ {E : Led}, OffAll E Z → ∀ e ∈ E, ∀ q ∈ Z, q.1 ≠ e.1
  | [], _, _, h => nomatch h
  | _ :: _, x, e, h => by
    rcases List.mem_cons.mp h with rfl | h
    · exact x.1
    · exact offAll_mem x.2 e h
theorem offAll_of {Z : Led} : ∀ {E : Led}, (∀ e ∈ E, ∀ q ∈ Z, q.1 ≠ e.1) → OffAll E Z
  | [], _ => trivial
  | _ :: _, h => ⟨h _ List.mem_cons_self, offAll_of fun e he => h e (List.mem_cons_of_mem _ he)⟩
theorem offAll_cons {Z E : Led} {p : Addr × Obj} (h : OffAll E Z) (ho : ∀ e ∈ E, e.1 ≠ p.1) : OffAll E (p :: Z) := offAll_of fun e he q hq => by
  rcases List.mem_cons.mp hq with rfl | hq
  · exact Ne.symm (ho e he)
  · exact offAll_mem h e he q hq
theorem off_app {E Z : Led} {x : Addr} (h : ∀ q ∈ E ++ Z, q.1 ≠ x) : (∀ q ∈ E, q.1 ≠ x) ∧ (∀ q ∈ Z, q.1 ≠ x) := ⟨fun q hq => h q (List.mem_append_left _ hq), fun q hq => h q (List.mem_append_right _ hq)⟩
theorem off_join {E Z : Led} {x : Addr} (h : ∀ q ∈ E, q.1 ≠ x) (h' : ∀ q ∈ Z, q.1 ≠ x) : ∀ q ∈ E ++ Z, q.1 ≠ x := fun q hq => (List.mem_append.mp hq).elim (h q) (h' q)
inductive Spl (Z : Led) : Led → Led → Prop
  | nil : Spl Z Z []
  | app {E} : Spl Z (E ++ Z) E
  | cons {p r e} : Spl Z r e → Spl Z (p :: r) (p :: e)
theorem Spl.eq {Z n e : Led} (S : Spl Z n e) : n = e ++ Z := by
  induction S with
  | nil => rfl
  | app => rfl
  | cons _ ih => rw [ih]; rfl
inductive All2 {α β : Type} (R : α → β → Prop) : List α → List β → Prop
  | nil : All2 R [] []
  | cons {a b as bs} : R a b → All2 R as bs → All2 R (a :: as) (b :: bs)
theorem All2.len {α β : Type} {R : α → β → Prop} {as : List α} {bs : List β} (h : All2 R as bs) : as.length = bs.length := by
  induction h with
  | nil => rfl
  | cons _ _ ih => simp [ih]
theorem All2.mono {α β : Type} {R R' : α → β → Prop} {as : List α} {bs : List β} (h : All2 R as bs) (f : ∀ a b, R a b → R' a b) : All2 R' as bs := by
  induction h with
  | nil => exact .nil
  | cons h _ ih => exact .cons (f _ _ h) ih
theorem All2.snoc {α β : Type} {R : α → β → Prop} {as : List α} {bs : List β} {a : α} {b : β} (h : All2 R as bs) (r : R a b) : All2 R (as ++ [a]) (bs ++ [b]) := by
  induction h with
  | nil => exact .cons r .nil
  | cons h _ ih => exact .cons h ih
theorem All2.app {α β : Type} {R : α → β → Prop} {as as' : List α} {bs bs' : List β} (h : All2 R as bs) (r : All2 R as' bs') : All2 R (as ++ as') (bs ++ bs') := by
  induction h with
  | nil => exact r
  | cons h _ ih => exact .cons h ih
theorem All2.get {α β : Type} {R : α → β → Prop} {as : List α} {bs : List β} (h : All2 R as bs) : ∀ {i : Nat} {a : α}, as[i]? = some a → ∃ b, bs[i]? = some b ∧ R a b := by
  induction h with
  | nil => intro i a e; cases e
  | cons h _ ih =>
    intro i a e
    cases i with
    | zero => cases e; exact ⟨_, rfl, h⟩
    | succ i => exact ih (by simpa using e)
section
variable {prog : Program} {w : World} {A : Around} {E : Value → Shared → Prop} {s : Shared} {env : Env} {h₀ : Heap} {x : Str} {body : List Stmt} {Q : Flow → Shared → Prop}
def KeepM (x : Str) (st : List Str) (m₀ m : Str → Option Value) : Prop := ∀ y, y ≠ x → st.contains y = false → m y = m₀ y
theorem keepM_eq {x : Str} {st : List Str} {m₀ m : Str → Option Value} {v : Value} (h : KeepM x st m₀ m) : (fun y => if y = x then some v else m y) = fun y => if y = x then some v else if st.contains y then m y else m₀ y := by
  funext y
  by_cases h1 : y = x
  · simp [h1]
  · simp only [if_neg h1]
    cases h2 : st.contains y with
    | true => simp
    | false => simp only [Bool.false_eq_true, if_false]; exact h y h1 h2
theorem keepM_eq' {x : Str} {st : List Str} {m₀ m : Str → Option Value} (h : KeepM x st m₀ m) : m = fun y => if y = x then m y else if st.contains y then m y else m₀ y := by
  funext y
  by_cases h1 : y = x
  · simp [h1]
  · simp only [if_neg h1]
    cases h2 : st.contains y with
    | true => simp
    | false => simp only [Bool.false_eq_true, if_false]; exact h y h1 h2
theorem turnZ {L : Addr} {J : Led → Prop} {I : Addr} {io : Obj} {st : List Str} {m₀ : Str → Option Value} {s₁ : Shared} {h' : Heap} {tk : Nat} {m' : Str → Option Value} {all : Led}
    (F : Fr h₀ L h' m') (N : News h₀ L h' all) (hm : KeepM x st m₀ m') (news' : Led) (hs : Ext ((I, io) :: news') all) (hI : ∀ p ∈ news', p.1 ≠ I) (hJ : J news') :
    TurnZ h₀ L (fun m n => KeepM x st m₀ m ∧ J n) I io Q s₁ .next { s₁ with heap := h', toks := tk } := TurnZ.intro F N news' hs hI ⟨hm, hJ⟩
theorem rangeZ {r : Addr} {b : Int} {t₀ u₀ v₀ : Tok} {m₀ : Str → Option Value} {news : Led} (st : List Str) (n : Nat) (J : Nat → Led → Prop)
    (hh : A.handled = none) (hr : IsRange s.heap r 0 b 1 t₀ u₀ v₀) (hb : b < 100000) (hb0 : -100000 < b) (hn : n = b.toNat) (F : Fr h₀ env.locals s.heap m₀) (N : News h₀ env.locals s.heap news) (J0 : J 0 news)
    (turn : ∀ i t (u : Str → Option Value) news₁ I io h tk, i < n → J i news₁ → (∀ p ∈ news₁, p.1 ≠ I) → Fr h₀ env.locals h (fun y => if y = x then some (.int (i : Nat) t) else if st.contains y then u y else m₀ y) → News h₀ env.locals h ((I, io) :: news₁) →
      wpAny (model prog w) A (execs body env) (TurnZ h₀ env.locals (fun m n => KeepM x st m₀ m ∧ J (i + 1) n) I io Q { s with heap := h, toks := tk }) E { s with heap := h, toks := tk })
    (done : ∀ (u : Str → Option Value) news₁ h tk, J n news₁ → Fr h₀ env.locals h (fun y => if y = x then u y else if st.contains y then u y else m₀ y) → News h₀ env.locals h news₁ → Q .next { s with heap := h, toks := tk }) :
    wpAny (model prog w) A (pyIter (.ref r)) (fun it s₂ => LoopAtV prog w A h₀ env x body Q E it s₂) E s := by
  refine iterZ_range n (fun i m n => KeepM x st m₀ m ∧ J i n) hh hr hb hb0 hn F N ⟨fun _ _ _ => rfl, J0⟩ ?_ ?_
  · rintro i t m₁ news₁ I io h tk hi ⟨hm, hJ⟩ ho F₁ N₁
    rw [keepM_eq hm] at F₁
    exact turn i t m₁ news₁ I io h tk hi hJ ho F₁ N₁
  · rintro m₁ news₁ h tk ⟨hm, hJ⟩ F₁ N₁
    rw [keepM_eq' hm] at F₁
    exact done m₁ news₁ h tk hJ F₁ N₁
theorem listZ {l : Addr} {vs : List Value} {nl : Nat} {m₀ : Str → Option Value} {news : Led} (st : List Str) (J : Nat → Led → Prop)
    (hh : A.handled = none) (hl : ∀ i n, J i n → (l, PySem.W.listOf vs.toArray nl) ∈ n) (F : Fr h₀ env.locals s.heap m₀) (N : News h₀ env.locals s.heap news) (J0 : J 0 news)
    (turn : ∀ i v (u : Str → Option Value) news₁ I io h tk, vs[i]? = some v → J i news₁ → (∀ p ∈ news₁, p.1 ≠ I) → Fr h₀ env.locals h (fun y => if y = x then some v else if st.contains y then u y else m₀ y) → News h₀ env.locals h ((I, io) :: news₁) →
      wpAny (model prog w) A (execs body env) (TurnZ h₀ env.locals (fun m n => KeepM x st m₀ m ∧ J (i + 1) n) I io Q { s with heap := h, toks := tk }) E { s with heap := h, toks := tk })
    (done : ∀ (u : Str → Option Value) news₁ h tk, J vs.length news₁ → Fr h₀ env.locals h (fun y => if y = x then u y else if st.contains y then u y else m₀ y) → News h₀ env.locals h news₁ → Q .next { s with heap := h, toks := tk }) :
    wpAny (model prog w) A (pyIter (.ref l)) (fun it s₂ => LoopAtV prog w A h₀ env x body Q E it s₂) E s := by
  refine iterZ_list (fun i m n => KeepM x st m₀ m ∧ J i n) hh (fun i m n h => hl i n h.2) F N ⟨fun _ _ _ => rfl, J0⟩ ?_ ?_
  · rintro i v m₁ news₁ I io h tk hi ⟨hm, hJ⟩ ho F₁ N₁
    rw [keepM_eq hm] at F₁
    exact turn i v m₁ news₁ I io h tk hi hJ ho F₁ N₁
  · rintro m₁ news₁ h tk ⟨hm, hJ⟩ F₁ N₁
    rw [keepM_eq' hm] at F₁
    exact done m₁ news₁ h tk hJ F₁ N₁
end
inductive Pl | nm (x : Str) | gp (x y : Str)
abbrev tupOf (its : Array Value) : Obj := { cls := .type "tuple", data := .seq its }
def RPl (Z : Led) (v : Value) : Pl → Prop
  | .nm x => ∃ t, v = .str x t
  | .gp x y => ∃ a t u, v = .ref a ∧ (a, tupOf #[.str x t, .str y u]) ∈ Z
theorem RPl.mkG {Z : Led} {a : Addr} {x y : Str} {t u : Tok} (h : (a, tupOf #[.str x t, .str y u]) ∈ Z) : RPl Z (.ref a) (.gp x y) := ⟨a, t, u, rfl, h⟩
theorem RPl.mkN {Z : Led} {x : Str} {t : Tok} : RPl Z (.str x t) (.nm x) := ⟨t, rfl⟩
theorem RPl.mono {Z Z' : Led} (e : Ext Z Z') : ∀ v pl, RPl Z v pl → RPl Z' v pl
  | _, .nm _, h => h
  | _, .gp _ _, h => let ⟨a, t, u, h1, h2⟩ := h; ⟨a, t, u, h1, e _ h2⟩
end Mine

namespace Mine
structure Row where
  fr : List Pl
  op : List Str
  re : Option Str
  ba : List Pl
  bl : Option Str
def StrV (v : Value) (x : Str) : Prop := ∃ t, v = .str x t
def OptV (v : Value) : Option Str → Prop
  | none => v = .none
  | some x => ∃ t, v = .str x t
inductive RowAt (Z : Led) (a : Addr) (R : Row) : Prop
  | mk (lf lo lb : Addr) (fv ov bv : List Value) (nf no nb : Nat) (rv blv : Value) (h1 : (a, tupOf #[.ref lf, .ref lo, rv, .ref lb, blv]) ∈ Z) (h2 : (lf, PySem.W.listOf fv.toArray nf) ∈ Z) (h3 : (lo, PySem.W.listOf ov.toArray no) ∈ Z) (h4 : (lb, PySem.W.listOf bv.toArray nb) ∈ Z) (h5 : All2 (RPl Z) fv R.fr) (h6 : All2 StrV ov R.op) (h7 : OptV rv R.re) (h8 : All2 (RPl Z) bv R.ba) (h9 : OptV blv R.bl) (h10 : R.fr.length ≤ 2) (h11 : R.op.length ≤ 2) (h12 : R.ba.length ≤ 2) (h13 : ∀ x, R.re = some x → x.length ≤ 20000)
theorem RowAt.mono {Z Z' : Led} {a : Addr} {R : Row} (h : RowAt Z a R) (e : Ext Z Z') : RowAt Z' a R := by
  obtain ⟨lf, lo, lb, fv, ov, bv, nf, no, nb, rv, blv, h1, h2, h3, h4, h5, h6, h7, h8, h9, h10, h11, h12, h13⟩ := h
  exact ⟨lf, lo, lb, fv, ov, bv, nf, no, nb, rv, blv, e _ h1, e _ h2, e _ h3, e _ h4, h5.mono (RPl.mono e), h6, h7, h8.mono (RPl.mono e), h9, h10, h11, h12, h13⟩
def StpIf : Prop := True
theorem let_goal {G : Prop} (h : let gg := G; gg) : G := h
section
variable {G : Prop} {I a1 a2 a3 a4 a5 a6 a7 : Addr} {o1 o2 o3 o4 o5 o6 o7 : Obj} {Z : Led}
theorem off1 (h : ∀ p ∈ (a1, o1) :: Z, p.1 ≠ I) (k : @Ne Nat a1 I → (∀ p ∈ Z, p.1 ≠ I) → G) : G := k (h _ List.mem_cons_self) fun p hp => h p (List.mem_cons_of_mem _ hp)
theorem off2 (h : ∀ p ∈ (a1, o1) :: (a2, o2) :: Z, p.1 ≠ I) (k : @Ne Nat a1 I → @Ne Nat a2 I → (∀ p ∈ Z, p.1 ≠ I) → G) : G := off1 h fun x h => off1 h (k x)
theorem off3 (h : ∀ p ∈ (a1, o1) :: (a2, o2) :: (a3, o3) :: Z, p.1 ≠ I) (k : @Ne Nat a1 I → @Ne Nat a2 I → @Ne Nat a3 I → (∀ p ∈ Z, p.1 ≠ I) → G) : G := off2 h fun x y h => off1 h (k x y)
theorem off4 (h : ∀ p ∈ (a1, o1) :: (a2, o2) :: (a3, o3) :: (a4, o4) :: Z, p.1 ≠ I) (k : @Ne Nat a1 I → @Ne Nat a2 I → @Ne Nat a3 I → @Ne Nat a4 I → (∀ p ∈ Z, p.1 ≠ I) → G) : G := off3 h fun x y z h => off1 h (k x y z)
theorem off5 (h : ∀ p ∈ (a1, o1) :: (a2, o2) :: (a3, o3) :: (a4, o4) :: (a5, o5) :: Z, p.1 ≠ I) (k : @Ne Nat a1 I → @Ne Nat a2 I → @Ne Nat a3 I → @Ne Nat a4 I → @Ne Nat a5 I → (∀ p ∈ Z, p.1 ≠ I) → G) : G := off4 h fun x y z u h => off1 h (k x y z u)
theorem off6 (h : ∀ p ∈ (a1, o1) :: (a2, o2) :: (a3, o3) :: (a4, o4) :: (a5, o5) :: (a6, o6) :: Z, p.1 ≠ I) (k : @Ne Nat a1 I → @Ne Nat a2 I → @Ne Nat a3 I → @Ne Nat a4 I → @Ne Nat a5 I → @Ne Nat a6 I → (∀ p ∈ Z, p.1 ≠ I) → G) : G := off5 h fun x y z u v h => off1 h (k x y z u v)
end
section
variable {G a b c d e f g : Prop}
theorem and2 (h : a ∧ b) (k : a → b → G) : G := k h.1 h.2
theorem and3 (h : a ∧ b ∧ c) (k : a → b → c → G) : G := k h.1 h.2.1 h.2.2
theorem and4 (h : a ∧ b ∧ c ∧ d) (k : a → b → c → d → G) : G := k h.1 h.2.1 h.2.2.1 h.2.2.2
theorem and5 (h : a ∧ b ∧ c ∧ d ∧ e) (k : a → b → c → d → e → G) : G := k h.1 h.2.1 h.2.2.1 h.2.2.2.1 h.2.2.2.2
theorem and6 (h : a ∧ b ∧ c ∧ d ∧ e ∧ f) (k : a → b → c → d → e → f → G) : G := k h.1 h.2.1 h.2.2.1 h.2.2.2.1 h.2.2.2.2.1 h.2.2.2.2.2
theorem and7 (h : a ∧ b ∧ c ∧ d ∧ e ∧ f ∧ g) (k : a → b → c → d → e → f → g → G) : G := k h.1 h.2.1 h.2.2.1 h.2.2.2.1 h.2.2.2.2.1 h.2.2.2.2.2.1 h.2.2.2.2.2.2
end
def Pt (_ : Nat) : Prop := True
end Mine

namespace Mine
def CutP (g : Heap) (L : Addr) (m : Str → Option Value) (J : Value → Led → Prop) (s : Shared) (v : Value) (s' : Shared) : Prop :=
  ∃ h' tk n, s' = { s with heap := h', toks := tk } ∧ Fr g L h' m ∧ News g L h' n ∧ J v n
theorem CutP.intro {g : Heap} {L : Addr} {m : Str → Option Value} {J : Value → Led → Prop} {s : Shared} {v : Value} {h' : Heap} {tk : Nat} {all : Led} (F : Fr g L h' m) (N : News g L h' all) (n : Led) (hs : Ext n all) (hJ : J v n) :
    CutP g L m J s v { s with heap := h', toks := tk } := ⟨h', tk, n, rfl, F, nsub N hs, hJ⟩
theorem cutE {M : Model} {A : Around} {t : Sem Value} {Q : Value → Shared → Prop} {E : Value → Shared → Prop} {s : Shared} {g : Heap} {L : Addr} {m : Str → Option Value} (J : Value → Led → Prop) (_F : Fr g L s.heap m)
    (h : wpAny M A t (CutP g L m J s) E s) (k : ∀ v h' tk n, Fr g L h' m → News g L h' n → J v n → Q v { s with heap := h', toks := tk }) : wpAny M A t Q E s :=
  wpAny_mono h (fun v s' ⟨h', tk, n, e, F', N', hJ⟩ => e ▸ k v h' tk n F' N' hJ) fun _ _ e => e
section
variable {M : Model} {A : Around} {env : Env} {E : Value → Shared → Prop} {s : Shared}
theorem foldQe {e : PySem.Expr} {Q : Value → Shared → Prop} (h : let qk := Q; wpAny M A (eval e env) qk E s) : wpAny M A (eval e env) Q E s := h
theorem foldQs {e : List Stmt} {Q : Flow → Shared → Prop} (h : let qk := Q; wpAny M A (execs e env) qk E s) : wpAny M A (execs e env) Q E s := h
theorem foldQx {e : Stmt} {Q : Flow → Shared → Prop} (h : let qk := Q; wpAny M A (exec e env) qk E s) : wpAny M A (exec e env) Q E s := h
theorem foldS {α : Type} {Q : α → Shared → Prop} {v : α} (h : let st := s; Q v st) : Q v s := h
theorem enterL {e : List Stmt} {Q : Flow → Shared → Prop} (h : let en := env; let am := A.deeper en; wpAny M am (execs e en) Q E s) : wpAny M (A.deeper env) (execs e env) Q E s := h
end
section
variable {prog : Program} {w : World} {A A₀ : Around} {s : Shared} {K : Frag} {L : Addr} {h₀ base : Heap} {m mg mb : Str → Option Value} {news : List (Addr × Obj)} {p : Program} {loose : List Str} {mean : ExcName → Option Value}
theorem code_defL {env : Env} {outer : List Env} {R : Result → Shared → Prop} {name qual : Str} {params : Arguments} {body : List Stmt} {scope : Scope} {dV kV doc pm cdv ct oc : Value} {an od : Option Addr} {osl : Array (Option Value)} {f : Addr} {args : Args} {binds : List (Str × Value)}
    (hA : A.frames = some (env :: outer)) (hf : env.frame = some L) (hke : env.scope.kind = .function) (B : Below A₀ base outer h₀) (F : Fr h₀ L s.heap m) (X₀ : K.In h₀) (N : News h₀ L s.heap news) (T : Top p loose mean mg mb h₀)
    (ho : K.lookup f = some ⟨oc, od, .func (fnOf name qual params body scope dV kV doc pm an cdv ct), osl⟩) (hcd : codeIn K cdv qual = true) (hroom : A.depth < recursionLimit)
    (hbind : BindsTo s (fnOf name qual params body scope dV kV doc pm an cdv ct) args binds) (hloc : ∀ y ∈ binds, scope.names.lookup y.1 = some .local)
    (h : ∀ g L' h₁, Fr h₀ L g m → ∀ tk, let st : Shared := { s with heap := h₁, toks := tk }; let en := envOf qual scope L' f cdv; let am := A.deeper en; let fm := fun y => binds.reverse.lookup y; let qk := (fun fl s' => LeaveK h₀ L m g R (match fl with | Flow.ret v => v | _ => .none) s'); let ek := (fun e s' => wpAny (model prog w) am (leaving en e) (fun _ s'' => R (.error e) s'') (fun e' s'' => R (.error e') s'') s'); Fr g L' h₁ fm → News g L' h₁ news → Below A base (env :: outer) g → K.In g → Top p loose mean mg mb g →
      wpAny (model prog w) am (execs body en) qk ek st)
    (hco : scope.isCoroutine = false) (hgen : scope.isGenerator = false) (hk : scope.kind = .function)
    (hcell : ∀ x ∈ scope.names, x.2 ≠ .cell) : codeAny (model prog w) A (.call (.ref f) args) R s :=
  code_def B F X₀ N T hA hf hke ho hcd hroom hbind hloc (fun g L' h₁ f => h g L' h₁ f _) hco hgen hk hcell
end
theorem room_ok {dp d k j : Nat} (h : dp + k < recursionLimit) (e : d = dp + j) (l : Nat.ble j k = true) : d < recursionLimit := e ▸ Nat.lt_of_le_of_lt (Nat.add_le_add_left (Nat.le_of_ble_eq_true l) dp) h
theorem room_mul {dp d a n k j : Nat} (h : dp + a * n + k < recursionLimit) (e : d = dp + j) (l : Nat.ble j k = true) : d < recursionLimit :=
  e ▸ Nat.lt_of_le_of_lt (Nat.add_le_add (Nat.le_add_right dp _) (Nat.le_of_ble_eq_true l)) h
theorem room_mul2 {dp d a n k j i : Nat} (h : dp + a * n + k < recursionLimit) (e : d = dp + j + a * n + i) (l : Nat.ble (j + i) k = true) : d < recursionLimit :=
  e ▸ Nat.lt_of_le_of_lt (by rw [Nat.add_right_comm dp j, Nat.add_assoc]; exact Nat.add_le_add_left (Nat.le_of_ble_eq_true l) _) h
theorem units_mul {un d a n k j : Nat} (h : un + a * n + k < cLine) (e : d = un + j) (l : Nat.ble j k = true) : d < cLine :=
  e ▸ Nat.lt_of_le_of_lt (Nat.add_le_add (Nat.le_add_right un _) (Nat.le_of_ble_eq_true l)) h
theorem units_mul2 {un d a n k j i : Nat} (h : un + a * n + k < cLine) (e : d = un + j + a * n + i) (l : Nat.ble (j + i) k = true) : d < cLine :=
  e ▸ Nat.lt_of_le_of_lt (by rw [Nat.add_right_comm un j, Nat.add_assoc]; exact Nat.add_le_add_left (Nat.le_of_ble_eq_true l) _) h
theorem units_ok {un d k j : Nat} (h : un + k < cLine) (e : d = un + j) (l : Nat.ble j k = true) : d < cLine := e ▸ Nat.lt_of_le_of_lt (Nat.add_le_add_left (Nat.le_of_ble_eq_true l) un) h
end Mine
end
section
open PySem.Sem
set_option maxRecDepth 100000
set_option maxHeartbeats 4000000
namespace Mine
section
variable {prog : Program} {w : World} {A : Around} {E : Value → Shared → Prop} {s : Shared}
theorem wpAny_alive {a : Addr} {Q : Option Obj → Shared → Prop} (h : Q (s.heap.get? a) s) : wpAny (model prog w) A (loadIfAlive a) Q E s := fun _ _ _ => h
abbrev zipO (T TI TO : Addr) (b : Bool) : Obj := { cls := .type "zip", dict := none, data := .fields #[rawInt T, .bool b, .bool false, .ref TI, .ref TO], slots := #[] }

theorem zip_owned {z T TI TO : Addr} {b : Bool} {Q : Bool → Shared → Prop} (hz : s.heap.get? z = some (zipO T TI TO b)) (hT : ∃ o, s.heap.get? T = some o)
    (h : ∀ h', h'.get? z = some (zipO T TI TO true) → Heap.SameBut z s.heap h' → Q false { s with heap := h' }) :
    wpAny (model prog w) A (Builtin.SmallTypes.ownedTupleIsFree (.ref z)) Q E s := by
  obtain ⟨oT, hT⟩ := hT
  unfold Builtin.SmallTypes.ownedTupleIsFree
  refine wpAny_bind (wpAny_field hz rfl (x := rawInt T) rfl ?_)
  show wpAny _ _ (loadIfAlive (Int.toNat (T : Int)) >>= _) _ _ _
  refine wpAny_bind (wpAny_alive ?_)
  rw [Int.toNat_natCast, hT]
  refine wpAny_bind (wpAny_field hz rfl (x := .bool b) rfl ?_)
  cases b with
  | true => exact wpAny_pure (h s.heap hz (Heap.SameBut.refl ..))
  | false =>
    show wpAny _ _ (setField (.ref z) 1 (.bool true) >>= _) _ _ _
    refine wpAny_bind (wpAny_setField_rec hz (by simp) fun h₁ hz₁ hs₁ => ?_)
    exact wpAny_pure (h h₁ hz₁ hs₁)

theorem zip_next_more {z T TI TO i1 i2 l1 l2 : Addr} {b : Bool} {k1 k2 : Nat} {xs ys : Array Value} {x y : Value} {Q : Value → Shared → Prop} (D : ZipApart z TI TO i1 i2 l1 l2)
    (hz : s.heap.get? z = some (zipO T TI TO b)) (hT : ∃ o, s.heap.get? T = some o) (hTI : IsPair s.heap TI (.ref i1) (.ref i2))
    (h1 : s.heap.IsListIter i1 l1 k1) (h2 : s.heap.IsListIter i2 l2 k2) (hl1 : s.heap.IsList l1 xs) (hl2 : s.heap.IsList l2 ys) (hx : xs[k1]? = some x) (hy : ys[k2]? = some y)
    (hQ : ∀ h', h'.get? z = some (zipO T TI TO true) → h'.IsListIter i1 l1 (k1 + 1) → h'.IsListIter i2 l2 (k2 + 1) → IsPair h' s.heap.objs.size x y → h'.objs.size = s.heap.objs.size + 1 →
      (∀ c o, c ≠ z → c ≠ i1 → c ≠ i2 → s.heap.get? c = some o → h'.get? c = some o) → Q (.ref s.heap.objs.size) { s with heap := h' }) :
    wpAny (model prog w) A (Builtin.«zip.__next__» ⟨[.ref z], []⟩) (fun fin s' => ∃ v, fin = .done (.ret v) ∧ Q v s') E s := by
  show wpAny _ _ (field (.ref z) 2 >>= _) _ _ _
  refine wpAny_bind (wpAny_field hz rfl (x := .bool false) rfl ?_)
  show wpAny _ _ (field (.ref z) 3 >>= _) _ _ _
  refine wpAny_bind (wpAny_field hz rfl (x := .ref TI) rfl ?_)
  refine wpAny_bind (wpAny_seqItems hTI rfl ?_)
  show wpAny _ _ (Builtin.SmallTypes.ownedTupleIsFree (.ref z) >>= _) _ _ _
  refine wpAny_bind (zip_owned hz hT fun h₁ hz₁ hs₁ => ?_)
  simp only [Bool.false_eq_true, if_false]
  show wpAny _ _ (forIn (#[Value.ref i1, Value.ref i2] : Array Value) _ _ >>= _) _ _ _
  simp only [List.forIn_toArray, List.forIn_cons, List.forIn_nil]
  refine wpAny_bind (wpAny_bind (wpAny_bind (wpAny_holding ?_)))
  show wpAny _ _ (Builtin.SmallTypes.nextOf (.ref i1) >>= _) _ _ _
  refine wpAny_bind (wpAny_nextOf_list_item (h1.extBut hs₁.extBut D.i1z) (hl1.extBut hs₁.extBut D.l1z) hx fun h₂ h1₂ hs₂ => wpAny_pure (wpAny_pure ?_))
  refine wpAny_bind (wpAny_bind (wpAny_holding ?_))
  show wpAny _ _ (Builtin.SmallTypes.nextOf (.ref i2) >>= _) _ _ _
  refine wpAny_bind (wpAny_nextOf_list_item ((h2.extBut hs₁.extBut D.i2z).extBut hs₂.extBut D.i12.symm)
    ((hl2.extBut hs₁.extBut D.l2z).extBut hs₂.extBut D.l2i1) hy fun h₄ h2₄ hs₄ => wpAny_pure (wpAny_pure (wpAny_pure ?_)))
  have hsz : h₄.objs.size = s.heap.objs.size := by rw [hs₄.1, hs₂.1, hs₁.1]
  have hz₄ : h₄.get? z = some (zipO T TI TO true) := hs₄.extBut _ _ D.i2z.symm (hs₂.extBut _ _ D.i1z.symm hz₁)
  refine wpAny_bind (wpAny_newTuple (hsz := by show 2 ≤ sizeLine; decide) ?_)
  refine wpAny_pure ⟨_, rfl, ?_⟩
  show Q (.ref h₄.objs.size) _
  have g := hQ (h₄.push { cls := .type "tuple", data := .seq #[x, y] }) (Heap.get?_push_of_some _ hz₄) ((h1₂.extBut hs₄.extBut D.i12).at fun o e => Heap.get?_push_of_some _ e) (h2₄.at fun o e => Heap.get?_push_of_some _ e)
    (by rw [← hsz]; exact Heap.get?_push_size _ rfl) (by rw [Heap.size_push, hsz]) fun c o c1 c3 c4 e => Heap.get?_push_of_some _ (hs₄.extBut _ _ c4 (hs₂.extBut _ _ c3 (hs₁.extBut _ _ c1 e)))
  rw [← hsz] at g
  exact g

theorem zip_next_over {z T TI TO i1 i2 l1 l2 : Addr} {b : Bool} {k1 k2 : Nat} {xs ys : Array Value} {Q : Fin → Shared → Prop} (hh : A.handled = none) (D : ZipApart z TI TO i1 i2 l1 l2)
    (hz : s.heap.get? z = some (zipO T TI TO b)) (hT : ∃ o, s.heap.get? T = some o) (hTI : IsPair s.heap TI (.ref i1) (.ref i2))
    (h1 : s.heap.IsListIter i1 l1 k1) (h2 : s.heap.IsListIter i2 l2 k2) (hl1 : s.heap.IsList l1 xs) (hl2 : s.heap.IsList l2 ys) (hend : xs[k1]? = none ∨ ys[k2]? = none)
    (hE : ∀ h' e, (∀ c o, c ≠ z → c ≠ i1 → c ≠ i2 → s.heap.get? c = some o → h'.get? c = some o) → (∃ o, h'.get? e = some o ∧ o.cls = .type "StopIteration") → E (.ref e) { s with heap := h' }) :
    wpAny (model prog w) A (Builtin.«zip.__next__» ⟨[.ref z], []⟩) Q E s := by
  show wpAny _ _ (field (.ref z) 2 >>= _) _ _ _
  refine wpAny_bind (wpAny_field hz rfl (x := .bool false) rfl ?_)
  show wpAny _ _ (field (.ref z) 3 >>= _) _ _ _
  refine wpAny_bind (wpAny_field hz rfl (x := .ref TI) rfl ?_)
  refine wpAny_bind (wpAny_seqItems hTI rfl ?_)
  show wpAny _ _ (Builtin.SmallTypes.ownedTupleIsFree (.ref z) >>= _) _ _ _
  refine wpAny_bind (zip_owned hz hT fun h₁ hz₁ hs₁ => ?_)
  simp only [Bool.false_eq_true, if_false]
  show wpAny _ _ (forIn (#[Value.ref i1, Value.ref i2] : Array Value) _ _ >>= _) _ _ _
  simp only [List.forIn_toArray, List.forIn_cons, List.forIn_nil]
  refine wpAny_bind (wpAny_bind (wpAny_bind (wpAny_holding ?_)))
  show wpAny _ _ (Builtin.SmallTypes.nextOf (.ref i1) >>= _) _ _ _
  cases hx : xs[k1]? with
  | none =>
    refine wpAny_bind (wpAny_nextOf_list_end hh (h1.extBut hs₁.extBut D.i1z) (hl1.extBut hs₁.extBut D.l1z) hx fun h₂ e hs₂ he => ?_)
    exact hE h₂ e (fun c o c1 c3 _ x => hs₂ _ _ c3 (hs₁.extBut _ _ c1 x)) he
  | some x =>
    have hy : ys[k2]? = none := by rcases hend with h | h; rw [hx] at h; cases h; exact h
    refine wpAny_bind (wpAny_nextOf_list_item (h1.extBut hs₁.extBut D.i1z) (hl1.extBut hs₁.extBut D.l1z) hx fun h₂ h1₂ hs₂ => wpAny_pure (wpAny_pure ?_))
    refine wpAny_bind (wpAny_bind (wpAny_holding ?_))
    show wpAny _ _ (Builtin.SmallTypes.nextOf (.ref i2) >>= _) _ _ _
    refine wpAny_bind (wpAny_nextOf_list_end hh ((h2.extBut hs₁.extBut D.i2z).extBut hs₂.extBut D.i12.symm)
      ((hl2.extBut hs₁.extBut D.l2z).extBut hs₂.extBut D.l2i1) hy fun h₄ e hs₄ he => ?_)
    exact hE h₄ e (fun c o c1 c3 c4 x => hs₄ _ _ c4 (hs₂.extBut _ _ c3 (hs₁.extBut _ _ c1 x))) he
end
end Mine
namespace Mine
section
variable {prog : Program} {w : World} {A : Around} {E : Value → Shared → Prop} {s : Shared}
structure ZSt (z TI TO i1 i2 l1 l2 : Addr) (xs ys : Array Value) (j : Nat) (h : Heap) : Prop where
  D : ZipApart z TI TO i1 i2 l1 l2
  st : (IsZip h z TI TO .none ∧ ∃ a b, IsPair h TO a b) ∨ ∃ T b, h.get? z = some (zipO T TI TO b) ∧ (∃ o, h.get? T = some o) ∧ T ≠ z ∧ T ≠ i1 ∧ T ≠ i2
  hTI : IsPair h TI (.ref i1) (.ref i2)
  h1 : h.IsListIter i1 l1 j
  h2 : h.IsListIter i2 l2 j
  hl1 : h.IsList l1 xs
  hl2 : h.IsList l2 ys
theorem ZSt.keep {z TI TO i1 i2 l1 l2 : Addr} {xs ys : Array Value} {j : Nat} {h h' : Heap} {S : Addr} (Z : ZSt z TI TO i1 i2 l1 l2 xs ys j h)
    (hk : ∀ c o, c ≠ S → h.get? c = some o → h'.get? c = some o) (hal : ∀ c, (∃ o, h.get? c = some o) → ∃ o, h'.get? c = some o) (s1 : z ≠ S) (s2 : TI ≠ S) (s3 : TO ≠ S) (s4 : i1 ≠ S) (s5 : i2 ≠ S) (s6 : l1 ≠ S) (s7 : l2 ≠ S) : ZSt z TI TO i1 i2 l1 l2 xs ys j h' where
  D := Z.D
  st := by
    rcases Z.st with ⟨a, b, c, d⟩ | ⟨T, b, a, c, d⟩
    · exact .inl ⟨hk _ _ s1 a, b, c, hk _ _ s3 d⟩
    · exact .inr ⟨T, b, hk _ _ s1 a, hal _ c, d⟩
  hTI := hk _ _ s2 Z.hTI
  h1 := Z.h1.at fun o e => hk _ o s4 e
  h2 := Z.h2.at fun o e => hk _ o s5 e
  hl1 := Z.hl1.at fun o e => hk _ o s6 e
  hl2 := Z.hl2.at fun o e => hk _ o s7 e

theorem ZSt.next {z TI TO i1 i2 l1 l2 : Addr} {xs ys : Array Value} {j : Nat} {x y : Value} {Q : Option Value → Shared → Prop} (Z : ZSt z TI TO i1 i2 l1 l2 xs ys j s.heap) (hx : xs[j]? = some x) (hy : ys[j]? = some y)
    (hQ : ∀ h', ZSt z TI TO i1 i2 l1 l2 xs ys (j + 1) h' → IsPair h' s.heap.objs.size x y → (∀ c o, c ≠ z → c ≠ TO → c ≠ i1 → c ≠ i2 → s.heap.get? c = some o → h'.get? c = some o) → Q (some (.ref s.heap.objs.size)) { s with heap := h' }) :
    wpAny (model prog w) A (pyNext (.ref z)) Q E s := by
  have D := Z.D
  have lt : ∀ {c o}, s.heap.get? c = some o → s.heap.objs.size ≠ c := fun e => Nat.ne_of_gt (Heap.lt_size e)
  have li1 : s.heap.objs.size ≠ i1 := by obtain ⟨_, e, _⟩ := Z.h1; exact lt e
  have li2 : s.heap.objs.size ≠ i2 := by obtain ⟨_, e, _⟩ := Z.h2; exact lt e
  rcases Z.st with ⟨hz, a, b, hTO⟩ | ⟨T, b, hz, hT, t1, t2, t3⟩
  · refine wpAny_pyNext_zip_item D hz Z.hTI hTO Z.h1 Z.h2 Z.hl1 Z.hl2 hx hy fun h' a1 a2 a3 a4 a5 a6 hk => ?_
    exact hQ h' ⟨D, .inr ⟨_, false, a1, ⟨_, a5⟩, lt hz, li1, li2⟩, hk _ _ D.TIz D.TITO D.TIi1 D.TIi2 Z.hTI, a3, a4, Z.hl1.at fun o e => hk _ o D.l1z D.l1TO D.l1i1 D.l1i2 e, Z.hl2.at fun o e => hk _ o D.l2z D.l2TO D.l2i1 D.l2i2 e⟩ a5 hk
  · have hty : s.TypeIs (.ref z) "zip" := ⟨_, hz, rfl⟩
    unfold pyNext
    refine wpAny_bind (wpAny_attempt (wpAny_callSpecial?_slot (name := Str.ofString "__next__") hty F.slot_zip_next
      (wpAny_call_entry F.slot_zip_next hty F.entry_zip_next
        (zip_next_more D hz hT Z.hTI Z.h1 Z.h2 Z.hl1 Z.hl2 hx hy fun h' a1 a3 a4 a5 a6 hk => wpAny_pure ?_) (F.args_zip_next_1 _))))
    obtain ⟨oT, hT⟩ := hT
    exact hQ h' ⟨D, .inr ⟨_, true, a1, ⟨_, hk _ _ t1 t2 t3 hT⟩, t1, t2, t3⟩, hk _ _ D.TIz D.TIi1 D.TIi2 Z.hTI, a3, a4, Z.hl1.at fun o e => hk _ o D.l1z D.l1i1 D.l1i2 e, Z.hl2.at fun o e => hk _ o D.l2z D.l2i1 D.l2i2 e⟩ a5 fun c o c1 _ c3 c4 e => hk c o c1 c3 c4 e

theorem ZSt.over {z TI TO i1 i2 l1 l2 : Addr} {xs ys : Array Value} {j : Nat} {Q : Option Value → Shared → Prop} (hh : A.handled = none) (Z : ZSt z TI TO i1 i2 l1 l2 xs ys j s.heap) (hend : xs[j]? = none ∨ ys[j]? = none)
    (hQ : ∀ h', (∀ c o, c ≠ z → c ≠ TO → c ≠ i1 → c ≠ i2 → s.heap.get? c = some o → h'.get? c = some o) → Q none { s with heap := h' }) :
    wpAny (model prog w) A (pyNext (.ref z)) Q E s := by
  have D := Z.D
  rcases Z.st with ⟨hz, a, b, hTO⟩ | ⟨T, b, hz, hT, t1, t2, t3⟩
  · exact wpAny_pyNext_zip_end hh D hz Z.hTI hTO Z.h1 Z.h2 Z.hl1 Z.hl2 hend hQ
  · have hty : s.TypeIs (.ref z) "zip" := ⟨_, hz, rfl⟩
    unfold pyNext
    refine wpAny_bind (wpAny_attempt (wpAny_callSpecial?_slot (name := Str.ofString "__next__") hty F.slot_zip_next
      (wpAny_call_entry F.slot_zip_next hty F.entry_zip_next (zip_next_over hh D hz hT Z.hTI Z.h1 Z.h2 Z.hl1 Z.hl2 hend fun h' e hk he => ?_) (F.args_zip_next_1 _))))
    obtain ⟨o, ho, hc⟩ := he
    refine wpAny_bind (wpAny_isInstance (T := "StopIteration") (b := true) ⟨o, ho, hc⟩ isSubtype_stop ?_)
    exact wpAny_pure (hQ _ fun c o c1 _ c3 c4 e => hk c o c1 c3 c4 e)
theorem ZSt.iter {z TI TO i1 i2 l1 l2 : Addr} {xs ys : Array Value} {j : Nat} {Q : Value → Shared → Prop} (Z : ZSt z TI TO i1 i2 l1 l2 xs ys j s.heap) (h : Q (.ref z) s) : wpAny (model prog w) A (pyIter (.ref z)) Q E s := by
  have hT : s.TypeIs (.ref z) "zip" := by
    rcases Z.st with ⟨hz, _⟩ | ⟨T, b, hz, _⟩
    · exact ⟨_, hz, rfl⟩
    · exact ⟨_, hz, rfl⟩
  refine wpAny_pyIter_slot hT F.slot_zip_iter (wpAny_call_entry F.slot_zip_iter hT F.entry_zip_iter ?_ (F.args_zip_iter_1 _))
  show wpAny _ _ (ret (.ref z)) _ _ s
  exact wpAny_pure ⟨_, rfl, "zip", _, hT, F.slot_zip_next.lookup, h⟩
end
theorem zip_no_len : typeLookup (.type "zip") "__len__" = pure none := by rw [typeLookup_type, builtinLookup_eq_fast]; kernel_rfl
theorem zip_no_hint : typeLookup (.type "zip") "__length_hint__" = pure none := by rw [typeLookup_type, builtinLookup_eq_fast]; kernel_rfl

/-- the pairs made so far: acc holds the refs of the tuples ts, each at its address -/
inductive Ents (h : Heap) (n0 : Nat) : List Addr → List (Value × Value) → Prop
  | nil : Ents h n0 [] []
  | snoc {ts ps T x y} : Ents h n0 ts ps → IsPair h T x y → n0 < T → Ents h n0 (ts ++ [T]) (ps ++ [(x, y)])
theorem Ents.mono {h h' : Heap} {n0 : Nat} {ts : List Addr} {ps : List (Value × Value)} (e : Ents h n0 ts ps) (hk : ∀ c o, n0 < c → h.get? c = some o → h'.get? c = some o) : Ents h' n0 ts ps := by
  induction e with
  | nil => exact .nil
  | snoc _ h1 h2 ih => exact .snoc ih (hk _ _ h2 h1) h2

section
variable {prog : Program} {w : World} {A : Around} {R : Result → Shared → Prop}
theorem zip_loop {z TI TO i1 i2 l1 l2 : Addr} {xs ys : Array Value} {n : Nat} (hh : A.in1.handled = none) (hn : n ≤ sizeLine) (hmin : min xs.size ys.size = n) (S : Addr) (res : Value)
    (s1 : z < S) (s2 : TI < S) (s3 : TO < S) (s4 : i1 < S) (s5 : i2 < S) (s6 : l1 < S) (s7 : l2 < S) :
    ∀ (k i : Nat) (s : Shared) (ts : List Addr) (c : Nat), n - i = k → i ≤ n → ZSt z TI TO i1 i2 l1 l2 xs ys i s.heap → s.heap.get? S = some { cls := .type "list", dict := none, data := .seq (ts.map Value.ref).toArray c, slots := #[] } → Ents s.heap S ts ((xs.toList.zip ys.toList).take i) →
    (∀ h' ts' c', (∀ c o, c ≠ S → c ≠ z → c ≠ TO → c ≠ i1 → c ≠ i2 → s.heap.get? c = some o → h'.get? c = some o) → h'.get? S = some { cls := .type "list", dict := none, data := .seq (ts'.map Value.ref).toArray c', slots := #[] } → Ents h' S ts' (xs.toList.zip ys.toList) → R (.ok (.ret res)) { s with heap := h' }) →
    codeAny (model prog w) A (.builtin "list.extend.loop" ⟨[.ref S, .ref z, res], []⟩) R s := by
  have hzl : (xs.toList.zip ys.toList).length = n := by simp [← hmin]
  intro k
  induction k with
  | zero =>
    intro i s ts c hk hi hst hS hacc hR
    have hin : i = n := Nat.le_antisymm hi (Nat.le_of_sub_eq_zero hk)
    subst hin
    refine codeAny_builtin F.entry_extend_loop ?_
    rw [Around.under_plainId F.plain_extend_loop _]
    show wpAny _ A.in1 (pyNext (.ref z) >>= _) _ _ s
    have hend : xs[i]? = none ∨ ys[i]? = none := by
      rcases Nat.le_total xs.size ys.size with h | h
      · exact .inl (Array.getElem?_eq_none (by lia))
      · exact .inr (Array.getElem?_eq_none (by lia))
    refine wpAny_bind (hst.over hh hend fun h' hk => ?_)
    rw [← hzl, List.take_length] at hacc
    exact wpAny_pure (hR h' ts c (fun c o _ c1 c2 c3 c4 e => hk c o c1 c2 c3 c4 e) (hk _ _ (Nat.ne_of_gt s1) (Nat.ne_of_gt s3) (Nat.ne_of_gt s4) (Nat.ne_of_gt s5) hS)
      (hacc.mono fun c o hc e => hk c o (Nat.ne_of_gt (Nat.lt_trans s1 hc)) (Nat.ne_of_gt (Nat.lt_trans s3 hc)) (Nat.ne_of_gt (Nat.lt_trans s4 hc)) (Nat.ne_of_gt (Nat.lt_trans s5 hc)) e))
  | succ k ih =>
    intro i s ts c hk hi hst hS hacc hR
    have hk9 := hk
    have hlt : i < n := Nat.lt_of_sub_pos (by rw [hk]; exact Nat.succ_pos k)
    have hx : i < xs.size := Nat.lt_of_lt_of_le hlt (hmin ▸ Nat.min_le_left _ _)
    have hy : i < ys.size := Nat.lt_of_lt_of_le hlt (hmin ▸ Nat.min_le_right _ _)
    refine codeAny_builtin F.entry_extend_loop ?_
    rw [Around.under_plainId F.plain_extend_loop _]
    show wpAny _ A.in1 (pyNext (.ref z) >>= _) _ _ s
    refine wpAny_bind (hst.next (Array.getElem?_eq_getElem hx) (Array.getElem?_eq_getElem hy) fun h' hst' hp hk => ?_)
    have hS' := hk _ _ (Nat.ne_of_gt s1) (Nat.ne_of_gt s3) (Nat.ne_of_gt s4) (Nat.ne_of_gt s5) hS
    have hSl : S < s.heap.objs.size := Heap.lt_size hS
    have hacc' := (hacc.mono fun c o hc e => hk c o (Nat.ne_of_gt (Nat.lt_trans s1 hc)) (Nat.ne_of_gt (Nat.lt_trans s3 hc)) (Nat.ne_of_gt (Nat.lt_trans s4 hc)) (Nat.ne_of_gt (Nat.lt_trans s5 hc)) e).snoc hp hSl
    have htl : ts.length = i := by
      have : ∀ {h : Heap} {n0 ts ps}, Ents h n0 ts ps → ts.length = ps.length := fun e => by
        induction e with
        | nil => rfl
        | snoc _ _ _ ih => simp [ih]
      rw [this hacc]; simp [hzl]; lia
    have htk : (xs.toList.zip ys.toList).take (i + 1) = (xs.toList.zip ys.toList).take i ++ [(xs[i], ys[i])] := by
      rw [List.take_succ_eq_append_getElem (by lia)]
      simp
    rw [← htk] at hacc'
    have hS2 : ∃ c2, (h'.update S (Obj.mapSeq (·.push (.ref s.heap.objs.size)))).get? S = some { cls := .type "list", dict := none, data := .seq ((ts ++ [s.heap.objs.size]).map Value.ref).toArray c2, slots := #[] } := by
      have e : ((ts ++ [s.heap.objs.size]).map Value.ref).toArray = (ts.map Value.ref).toArray.push (.ref s.heap.objs.size) := by simp
      rw [e]
      exact ⟨_, Heap.get?_update_self _ hS' rfl⟩
    obtain ⟨c2, hS2⟩ := hS2
    show wpAny _ A.in1 (updateSeq S (·.push (.ref s.heap.objs.size)) >>= _) _ _ _
    refine wpAny_bind ?_
    refine wpAny_updateSeq hS' rfl (wpAny_pure ⟨plainId_quiet F.plain_extend_loop _, ih (i + 1) _ (ts ++ [s.heap.objs.size]) c2 (by rw [Nat.sub_add_eq, hk9]; rfl) hlt (hst'.keep (S := S) ?_ ?_ (Nat.ne_of_lt s1) (Nat.ne_of_lt s2) (Nat.ne_of_lt s3) (Nat.ne_of_lt s4) (Nat.ne_of_lt s5) (Nat.ne_of_lt s6) (Nat.ne_of_lt s7)) hS2 (hacc'.mono ?_) ?_⟩)
      (by simp [htl]; lia) (by simp [htl]; lia)
    · intro c o hc e; exact (Heap.get?_update_other _ _ (Ne.symm hc)).trans e
    · rintro c ⟨o, e⟩
      by_cases hc : S = c
      · subst hc; exact ⟨_, Heap.get?_update_self _ hS' rfl⟩
      · exact ⟨o, (Heap.get?_update_other _ _ hc).trans e⟩
    · intro c o hc e; exact (Heap.get?_update_other _ _ (Nat.ne_of_lt hc)).trans e
    · intro h'' ts' c' hk'' hS'' hacc''
      exact hR h'' ts' c' (fun c o c0 c1 c2 c3 c4 e => hk'' c o c0 c1 c2 c3 c4 ((Heap.get?_update_other _ _ (Ne.symm c0)).trans (hk c o c1 c2 c3 c4 e))) hS'' hacc''
end
section
variable {prog : Program} {w : World} {A : Around} {E : Value → Shared → Prop} {s : Shared}
theorem call_list_zip {z TI TO i1 i2 l1 l2 : Addr} {xs ys : Array Value} {Q : Value → Shared → Prop} (hh : A.in1.in1.handled = none) (hn : min xs.size ys.size ≤ sizeLine) (hTOl : TO < s.heap.objs.size) (hst : ZSt z TI TO i1 i2 l1 l2 xs ys 0 s.heap)
    (hQ : ∀ h' ts' c', (∀ c o, c ≠ z → c ≠ TO → c ≠ i1 → c ≠ i2 → s.heap.get? c = some o → h'.get? c = some o) → h'.get? s.heap.objs.size = some { cls := .type "list", dict := none, data := .seq (ts'.map Value.ref).toArray c', slots := #[] } →
      Ents h' s.heap.objs.size ts' (xs.toList.zip ys.toList) → Q (.ref s.heap.objs.size) { s with heap := h' }) :
    wpAny (model prog w) A (call (.type "list") [.ref z]) Q E s := by
  have hzl : z < s.heap.objs.size := by rcases hst.st with ⟨hz, _⟩ | ⟨T, b, hz, _⟩ <;> exact Heap.lt_size hz
  have hTIl : TI < s.heap.objs.size := Heap.lt_size hst.hTI
  have h1l : i1 < s.heap.objs.size := by obtain ⟨_, e, _⟩ := hst.h1; exact Heap.lt_size e
  have h2l : i2 < s.heap.objs.size := by obtain ⟨_, e, _⟩ := hst.h2; exact Heap.lt_size e
  have hl1l : l1 < s.heap.objs.size := by obtain ⟨_, e, _⟩ := hst.hl1; exact Heap.lt_size e
  have hl2l : l2 < s.heap.objs.size := by obtain ⟨_, e, _⟩ := hst.hl2; exact Heap.lt_size e
  refine callType_codes (Q₁ := fun obj s₁ => obj = .ref s.heap.objs.size ∧ s₁ = { s with heap := s.heap.push { cls := .type "list", data := .seq #[] } }) F.called_list (F.typeCall_list_1 _) F.entry_list_init
    (code_list_new _ ⟨rfl, rfl⟩) fun obj s₁ h₁ => ?_
  obtain ⟨rfl, rfl⟩ := h₁
  have hS : (s.heap.push { cls := .type "list", data := .seq #[] }).get? s.heap.objs.size = some { cls := .type "list", data := .seq #[] } := Heap.get?_push_size _ rfl
  refine ⟨⟨_, hS, rfl⟩, F.args_list_init_2 _ _, ?_⟩
  have pk : ∀ {c o}, s.heap.get? c = some o → (s.heap.push { cls := .type "list", data := .seq #[] }).get? c = some o := fun e => Heap.get?_push_of_some _ e
  generalize hsS : s.heap.objs.size = S at *
  generalize hg : s.heap.push { cls := .type "list", data := .seq #[] } = g at *
  have hst : ZSt z TI TO i1 i2 l1 l2 xs ys 0 g := hst.keep (S := S) (fun c o _ e => pk e) (fun c ⟨o, e⟩ => ⟨o, pk e⟩) (Nat.ne_of_lt hzl) (Nat.ne_of_lt hTIl) (Nat.ne_of_lt hTOl) (Nat.ne_of_lt h1l) (Nat.ne_of_lt h2l) (Nat.ne_of_lt hl1l) (Nat.ne_of_lt hl2l)
  show wpAny _ A.in1.in1 (do let old ← Builtin.List.listItems (.ref S); Builtin.List.listUpdate (.ref S) (fun _ => #[]); letGo old.toList.reverse; Builtin.List.listExtendWith (.ref S) (.ref z) .none) _ _ _
  refine wpAny_bind ?_
  unfold Builtin.List.listItems
  refine wpAny_bind (wpAny_seqItems hS rfl (wpAny_pure ?_))
  show wpAny _ A.in1.in1 (updateSeq S (fun _ => #[]) >>= fun _ => letGo (#[] : Array Value).toList.reverse >>= fun _ => Builtin.List.listExtendWith (.ref S) (.ref z) .none) _ _ _
  refine wpAny_bind (wpAny_updateSeq hS rfl ?_)
  have hS₂ := Heap.get?_update_self (Obj.mapSeq (fun _ => (#[] : Array Value))) hS rfl
  have oth : ∀ b o, b ≠ S → g.get? b = some o → (g.update S (Obj.mapSeq (fun _ => (#[] : Array Value)))).get? b = some o :=
    fun b o hb e => (Heap.get?_update_other _ _ (Ne.symm hb)).trans e
  refine wpAny_bind (wpAny_letGo ?_)
  have alv : ∀ {g₁ : Heap} {f : Obj → Obj} {o o' : Obj} , g₁.get? S = some o' → (g₁.update S f).get? S = some o → (∀ c, (∃ o, g₁.get? c = some o) → ∃ o, (g₁.update S f).get? c = some o) := fun {g₁ f o o'} _ h2 c ⟨o, e⟩ => by
    by_cases hc : S = c
    · subst hc; exact ⟨_, h2⟩
    · exact ⟨o, (Heap.get?_update_other _ _ hc).trans e⟩
  have hst₂ := hst.keep (S := S) oth (alv hS hS₂) (Nat.ne_of_lt hzl) (Nat.ne_of_lt hTIl) (Nat.ne_of_lt hTOl) (Nat.ne_of_lt h1l) (Nat.ne_of_lt h2l) (Nat.ne_of_lt hl1l) (Nat.ne_of_lt hl2l)
  generalize hg2 : g.update S (Obj.mapSeq (fun _ => (#[] : Array Value))) = g₂ at *
  have hT : ∀ s' : Shared, ZSt z TI TO i1 i2 l1 l2 xs ys 0 s'.heap → s'.TypeIs (.ref z) "zip" := fun s' h => by
    rcases h.st with ⟨hz, _⟩ | ⟨T, b, hz, _⟩
    · exact ⟨_, hz, rfl⟩
    · exact ⟨_, hz, rfl⟩
  unfold Builtin.List.listExtendWith
  refine wpAny_bind (wpAny_typeOf (hT _ hst₂) ?_)
  have h1 : Builtin.List.listSameRef (.ref S) (.ref z) = false := by simp [Builtin.List.listSameRef, Nat.ne_of_gt hzl]
  have h2 : (Value.type "zip" == Value.type "list") = false := by decide
  have h3 : (Value.type "zip" == Value.type "tuple") = false := by decide
  simp only [h1, h2, h3, Bool.or_false, Bool.false_eq_true, if_false]
  refine wpAny_bind (hst₂.iter ?_)
  refine wpAny_bind (wpAny_holding ?_)
  unfold Builtin.List.listLengthHint
  refine wpAny_bind (wpAny_specialOf (hT _ hst₂) zip_no_len ?_)
  show wpAny _ A.in1.in1 (specialOf (Value.ref z) (Str.ofString "__length_hint__") >>= _) _ _ _
  refine wpAny_bind (wpAny_specialOf (hT _ hst₂) zip_no_hint ?_)
  refine wpAny_pure ?_
  show wpAny _ A.in1.in1 (rule "list.extend.makes-room" >>= fun _ => Builtin.List.listTouch (.ref S) >>= fun _ =>
    again (.builtin "list.extend.loop" ⟨[.ref S, .ref z, .none], []⟩)) _ _ _
  refine wpAny_bind (wpAny_rule ?_)
  refine wpAny_bind ?_
  show wpAny _ A.in1.in1 (updateSeq S (·.push .none) >>= fun _ => updateSeq S (·.pop)) _ _ _
  refine wpAny_bind (wpAny_updateSeq hS₂ rfl ?_)
  have hS₃ := Heap.get?_update_self (Obj.mapSeq (·.push Value.none)) hS₂ rfl
  refine wpAny_updateSeq (hz := by seq_fits) hS₃ rfl ?_
  have hS₄ := Heap.get?_update_self (Obj.mapSeq (·.pop)) hS₃ rfl
  have oth2 : ∀ b o, b ≠ S → g₂.get? b = some o → ((g₂.update S (Obj.mapSeq (·.push Value.none))).update S (Obj.mapSeq (·.pop))).get? b = some o :=
    fun b o hb e => (Heap.get?_update_other _ _ (Ne.symm hb)).trans ((Heap.get?_update_other _ _ (Ne.symm hb)).trans e)
  have hst₄ := hst₂.keep (S := S) oth2 (fun c hc => alv hS₃ hS₄ c (alv hS₂ hS₃ c hc)) (Nat.ne_of_lt hzl) (Nat.ne_of_lt hTIl) (Nat.ne_of_lt hTOl) (Nat.ne_of_lt h1l) (Nat.ne_of_lt h2l) (Nat.ne_of_lt hl1l) (Nat.ne_of_lt hl2l)
  refine wpAny_pure ⟨plainId_quiet F.plain_extend_loop _, zip_loop hh hn rfl S .none hzl hTIl hTOl h1l h2l hl1l hl2l _ 0 _ [] _ rfl (Nat.zero_le _) hst₄ hS₄ .nil fun h' ts' c' hk hS' he => ?_⟩
  exact ⟨rfl, hQ h' ts' c' (fun c o c1 c2 c3 c4 e => by
    have hcS : c ≠ S := by
      have := Heap.lt_size e
      rw [hsS] at this
      exact Nat.ne_of_lt this
    exact hk c o hcS c1 c2 c3 c4 (oth2 _ _ hcS (oth _ _ hcS (pk e)))) hS' he⟩
end
end Mine
end
section
set_option maxRecDepth 100000
namespace Mine
section
variable {prog : Program} {w : World} {A : Around} {E : Value → Shared → Prop} {s : Shared} {env : Env} {h₀ : Heap} {target : PySem.Expr} {body : List Stmt} {Q : Flow → Shared → Prop}
theorem loopT {I : Addr} {fp : List Addr} {n : Nat} {P Md : Nat → Value → Heap → Prop} {St : Nat → Heap → Prop} {m₀ : Str → Option Value} {news : Led} (J : Nat → (Str → Option Value) → Led → Prop)
    (W : KTurns prog w A target I fp [I] n P Md St) (hLf : env.locals ∉ fp) (hI : h₀.get? I = none) (hoff : ∀ p ∈ news, p.1 ≠ I) (hst : St 0 s.heap) (hSI : ∀ i h, St i h → ∃ o, h.get? I = some o)
    (hfp : ∀ b ∈ fp, b = I ∨ ∃ o, ∀ i m₁ news₁, J i m₁ news₁ → (b, o) ∈ news₁)
    (F : Fr h₀ env.locals s.heap m₀) (N : News h₀ env.locals s.heap news) (J0 : J 0 m₀ news)
    (turn : ∀ i v m₁ news₁ io h tk, i < n → P i v h → J i m₁ news₁ → (∀ p ∈ news₁, p.1 ≠ I) → Fr h₀ env.locals h m₁ → News h₀ env.locals h ((I, io) :: news₁) →
      wpAny (model prog w) A (assign target env v) (fun _ s₃ => wpAny (model prog w) A (execs body env) (TurnZ h₀ env.locals (J (i + 1)) I io Q { s with heap := h, toks := tk }) E s₃) E { s with heap := h, toks := tk })
    (done : ∀ m₁ news₁ h tk, J n m₁ news₁ → Fr h₀ env.locals h m₁ → News h₀ env.locals h news₁ → Q .next { s with heap := h, toks := tk }) :
    TurnsAt prog w A h₀ env target body Q E (.ref I) s := by
  refine ⟨I, fp, [I], n, P, Md, St, m₀, news, J, rfl, W, hLf, ?_, ?_, hst, F, N, J0, ?_, ?_⟩
  · intro b hb; rw [List.mem_singleton.mp hb]; exact hI
  · intro p hp hm; exact hoff p hp (List.mem_singleton.mp hm)
  · rintro i v m₁ news₁ hh' tk' own hin hP hJ hoff₁ hown hget hall hst' F₁ N₁
    have hoff2 : ∀ p ∈ news₁, p.1 ≠ I := fun p hp e => hoff₁ p hp (List.mem_singleton.mpr e)
    obtain ⟨io, hio⟩ := hSI _ _ hst'
    have hmI := hall I (W.sub I (List.mem_singleton.mpr rfl)) hI io hio
    have N₂ : News h₀ env.locals hh' ((I, io) :: news₁) := fun p hp => by
      rcases List.mem_cons.mp hp with rfl | hp
      · exact N₁ _ (List.mem_append_left _ hmI)
      · exact N₁ _ (List.mem_append_right _ hp)
    refine wpAny_mono (turn i v m₁ news₁ io hh' tk' hin hP hJ hoff2 F₁ N₂) (fun _ s₃ h₃ => wpAny_mono h₃ (fun f s₂ p => ?_) fun _ _ e => e) fun _ _ e => e
    have fin : (∃ h' tk m' news', s₂ = { s with heap := h', toks := tk } ∧ Fr h₀ env.locals h' m' ∧ News h₀ env.locals h' ((I, io) :: news') ∧ (∀ p ∈ news', p.1 ≠ I) ∧ J (i + 1) m' news') →
        LoopStepU h₀ env.locals [I] own (J (i + 1)) { s with heap := hh', toks := tk' } .next s₂ := by
      rintro ⟨h', tk, m', news', rfl, F', N', ho, hJ'⟩
      refine ⟨rfl, h', tk, m', news', rfl, F', fun p hp => ?_, fun p hp hm => ho p hp (List.mem_singleton.mp hm), hJ'⟩
      rcases List.mem_append.mp hp with hp | hp
      · rcases hfp p.1 (hown p hp) with e | hj
        · have h2 : hh'.get? p.1 = some p.2 := hget p hp
          have h3 : p = (I, io) := by
            rw [e, hio] at h2
            exact Prod.ext e (Option.some.inj h2).symm
          rw [h3]; exact N' _ List.mem_cons_self
        · obtain ⟨o, hj⟩ := hj
          have ho' := hj i m₁ news₁ hJ
          have h1 : hh'.get? p.1 = some o := (N₂ _ (List.mem_cons_of_mem _ ho')).1
          have h2 : hh'.get? p.1 = some p.2 := hget p hp
          rw [h1] at h2
          have h3 : p = (p.1, o) := Prod.ext rfl (Option.some.inj h2).symm
          rw [h3]
          exact N' _ (List.mem_cons_of_mem _ (hj _ _ _ hJ'))
      · exact N' _ (List.mem_cons_of_mem _ hp)
    cases f with
    | ret v => exact .ret p
    | brk => exact .brk p
    | next => exact .next (fin p)
    | cont => exact .cont (fin p)
  · rintro h' tk m' news' F' N' _ hJ
    exact done m' news' h' tk hJ F' N'

theorem iterT_list {l : Addr} {vs : List Value} {nl : Nat} {m₀ : Str → Option Value} {news : Led} (J : Nat → (Str → Option Value) → Led → Prop)
    (hh : A.handled = none) (hl : ∀ i m n, J i m n → (l, PySem.W.listOf vs.toArray nl) ∈ n) (F : Fr h₀ env.locals s.heap m₀) (N : News h₀ env.locals s.heap news) (J0 : J 0 m₀ news)
    (turn : ∀ i v m₁ news₁ I io h tk, vs[i]? = some v → J i m₁ news₁ → (∀ p ∈ news₁, p.1 ≠ I) → Fr h₀ env.locals h m₁ → News h₀ env.locals h ((I, io) :: news₁) →
      wpAny (model prog w) A (assign target env v) (fun _ s₃ => wpAny (model prog w) A (execs body env) (TurnZ h₀ env.locals (J (i + 1)) I io Q { s with heap := h, toks := tk }) E s₃) E { s with heap := h, toks := tk })
    (done : ∀ m₁ news₁ h tk, J vs.length m₁ news₁ → Fr h₀ env.locals h m₁ → News h₀ env.locals h news₁ → Q .next { s with heap := h, toks := tk }) :
    wpAny (model prog w) A (pyIter (.ref l)) (fun it s₂ => TurnsAt prog w A h₀ env target body Q E it s₂) E s := by
  have hm := hl _ _ _ J0
  have hls : s.heap.IsList l vs.toArray := News.isList N hm
  have hlt : l < s.heap.objs.size := Heap.lt_size (N _ hm).1
  refine wpAny_pyIter_list hls ?_
  have W := KTurns.ofWalks (target := target) (Walks.list (prog := prog) (w := w) hh s.heap.objs.size l (Nat.ne_of_lt hlt) vs.toArray) fun i v s Q E st q => letGo_listiter st.1 q
  rw [List.size_toArray] at W
  refine loopT (s := { s with heap := s.heap.push _ }) J W ?_ (next_is_new F) (fun p hp => Nat.ne_of_lt (Heap.lt_size (N p hp).1)) ⟨⟨_, Heap.get?_push_size _ rfl, rfl, rfl⟩, hls.at fun o e => Heap.get?_push_of_some _ e⟩
    (fun i h st => by obtain ⟨o, e, _⟩ := st.1; exact ⟨o, e⟩) ?_ (F.push _) (fun p hp => ⟨Heap.get?_push_of_some _ (N p hp).1, (N p hp).2⟩) J0 ?_ done
  · intro hm'
    rcases List.mem_cons.mp hm' with e | hm'
    · exact absurd F.ns.lt (e ▸ Nat.lt_irrefl _)
    · exact (N _ hm).2.1 (List.mem_singleton.mp hm').symm
  · intro b hb
    rcases List.mem_cons.mp hb with e | hb
    · exact .inl e
    · rw [List.mem_singleton.mp hb]; exact .inr ⟨_, hl⟩
  · rintro i v m₁ news₁ io h tk hi hP hJ ho F₁ N₁
    exact turn i v m₁ news₁ _ io h tk (by simpa using hP) hJ ho F₁ N₁

theorem iterT_tuple {l : Addr} {vs : List Value} {m₀ : Str → Option Value} {news : Led} (J : Nat → (Str → Option Value) → Led → Prop)
    (hh : A.handled = none) (hl : ∀ i m n, J i m n → (l, tupOf vs.toArray) ∈ n) (F : Fr h₀ env.locals s.heap m₀) (N : News h₀ env.locals s.heap news) (J0 : J 0 m₀ news)
    (turn : ∀ i v m₁ news₁ I io h tk, vs[i]? = some v → J i m₁ news₁ → (∀ p ∈ news₁, p.1 ≠ I) → Fr h₀ env.locals h m₁ → News h₀ env.locals h ((I, io) :: news₁) →
      wpAny (model prog w) A (assign target env v) (fun _ s₃ => wpAny (model prog w) A (execs body env) (TurnZ h₀ env.locals (J (i + 1)) I io Q { s with heap := h, toks := tk }) E s₃) E { s with heap := h, toks := tk })
    (done : ∀ m₁ news₁ h tk, J vs.length m₁ news₁ → Fr h₀ env.locals h m₁ → News h₀ env.locals h news₁ → Q .next { s with heap := h, toks := tk }) :
    wpAny (model prog w) A (pyIter (.ref l)) (fun it s₂ => TurnsAt prog w A h₀ env target body Q E it s₂) E s := by
  have hm := hl _ _ _ J0
  have hls : s.heap.IsTuple l vs.toArray := ⟨_, (N _ hm).1, rfl, _, rfl⟩
  have hlt : l < s.heap.objs.size := Heap.lt_size (N _ hm).1
  refine wpAny_pyIter_tuple hls ?_
  have W := KTurns.ofWalks (target := target) (Walks.tuple (prog := prog) (w := w) hh s.heap.objs.size l (Nat.ne_of_lt hlt) vs.toArray) fun i v s Q E st q => letGo_tupleiter st.1 q
  rw [List.size_toArray] at W
  refine loopT (s := { s with heap := s.heap.push _ }) J W ?_ (next_is_new F) (fun p hp => Nat.ne_of_lt (Heap.lt_size (N p hp).1)) ⟨⟨_, Heap.get?_push_size _ rfl, rfl, rfl⟩, hls.at fun o e => Heap.get?_push_of_some _ e⟩
    (fun i h st => by obtain ⟨o, e, _⟩ := st.1; exact ⟨o, e⟩) ?_ (F.push _) (fun p hp => ⟨Heap.get?_push_of_some _ (N p hp).1, (N p hp).2⟩) J0 ?_ done
  · intro hm'
    rcases List.mem_cons.mp hm' with e | hm'
    · exact absurd F.ns.lt (e ▸ Nat.lt_irrefl _)
    · exact (N _ hm).2.1 (List.mem_singleton.mp hm').symm
  · intro b hb
    rcases List.mem_cons.mp hb with e | hb
    · exact .inl e
    · rw [List.mem_singleton.mp hb]; exact .inr ⟨_, hl⟩
  · rintro i v m₁ news₁ io h tk hi hP hJ ho F₁ N₁
    exact turn i v m₁ news₁ _ io h tk (by simpa using hP) hJ ho F₁ N₁
end
end Mine
namespace Mine
open LCg LCt LCp
section
variable {prog : Program} {w : World} {A : Around} {E : Value → Shared → Prop} {s : Shared} {h₀ : Heap} {L : Addr} {m : Str → Option Value} {env : Env}
def CZ (h₀ : Heap) (L : Addr) (m : Str → Option Value) (s₁ : Shared) (I : Addr) (oI : Obj) (C : Addr) (oC : Obj) (D : Addr) (oD : Obj) (rest : Value → Led → Prop) (y : Value) (s₂ : Shared) : Prop :=
  ∃ h' tk news', s₂ = { s₁ with heap := h', toks := tk } ∧ Fr h₀ L h' m ∧ News h₀ L h' ((I, oI) :: (C, oC) :: (D, oD) :: news') ∧ (∀ p ∈ news', p.1 ≠ I ∧ p.1 ≠ C ∧ p.1 ≠ D) ∧ rest y news'
theorem CZ.intro {I C D : Addr} {s₁ : Shared} {oI oC oD : Obj} {rest : Value → Led → Prop} {y : Value} {h' : Heap} {tk : Nat} {all : Led}
    (F : Fr h₀ L h' m) (N : News h₀ L h' all) (news' : Led) (sub : Ext ((I, oI) :: (C, oC) :: (D, oD) :: news') all) (off1 : ∀ p ∈ news', p.1 ≠ I) (off2 : ∀ p ∈ news', p.1 ≠ C) (off3 : ∀ p ∈ news', p.1 ≠ D) (r : rest y news') :
    CZ h₀ L m s₁ I oI C oC D oD rest y { s₁ with heap := h', toks := tk } := ⟨h', tk, news', rfl, F, nsub N sub, fun p hp => ⟨off1 p hp, off2 p hp, off3 p hp⟩, r⟩
theorem CZ.end {I C D : Addr} {s₁ s₂ : Shared} {oI oC oD : Obj} {rest rest' : Value → Led → Prop} {S : Led → Prop} {y : Value} (h : CZ h₀ L m s₁ I oI C oC D oD rest y s₂) (hr : ∀ y n, rest y n → S n ∧ rest' y n) :
    CompEnd h₀ L m s₁ I oI C oC D oD S rest' y s₂ := by
  obtain ⟨h', tk, n, e, F, N, o, r⟩ := h
  exact ⟨h', tk, n, e, F, N, Off3.of o, (hr _ _ r).1, (hr _ _ r).2⟩
theorem CZ.endAt {I C D : Addr} {s₁ s₂ : Shared} {oI oC oD : Obj} {rest rest' : Value → Led → Prop} {S : Led → Prop} {y y' : Value} (h : CZ h₀ L m s₁ I oI C oC D oD rest y s₂) (hr : ∀ n, rest y n → S n ∧ rest' y' n) :
    CompEnd h₀ L m s₁ I oI C oC D oD S rest' y' s₂ := by
  obtain ⟨h', tk, n, e, F, N, o, r⟩ := h
  exact ⟨h', tk, n, e, F, N, Off3.of o, (hr _ r).1, (hr _ r).2⟩
theorem compZ {elt : PySem.Expr} {x : Str} {scope : Scope} {cl : List (Str × Addr)} {S : Led → Prop} {P : Nat → Value → Prop} {Fin : List Value → Led → Prop} {n : Nat} {news : Led} (J : Nat → List Value → Led → Prop)
    (hS : ∀ i ys n, J i ys n → S n)
    (turn : ∀ i v ys news I oI C oC D m₂ h tk (E' : Value → Shared → Prop), i < n → P i v → J i ys news → NsObj oC m₂ → m₂ x = some v → Fr h₀ L h m → News h₀ L h ((I, oI) :: (C, oC) :: (D, lst ys) :: news) → (∀ p ∈ news, p.1 ≠ I) → (∀ p ∈ news, p.1 ≠ C) → (∀ p ∈ news, p.1 ≠ D) → ((@Ne Nat I C) ∧ (@Ne Nat I D) ∧ (@Ne Nat C D)) →
      wpAny (model prog w) A (eval elt (compEnvC scope cl C env)) (CZ h₀ L m { s with heap := h, toks := tk } I oI C oC D (lst ys) (fun y n => J (i + 1) (ys ++ [y]) n)) E' { s with heap := h, toks := tk })
    (done : ∀ ys news, J n ys news → Fin ys news) (J0 : J 0 [] news) : CompRest prog w A h₀ L m env elt x scope cl s S P Fin n 0 [] news := by
  suffices H : ∀ k i ys news, i + k = n → J i ys news → CompRest prog w A h₀ L m env elt x scope cl s S P Fin k i ys news from H n 0 [] news (Nat.zero_add n) J0
  intro k
  induction k with
  | zero => intro i ys news e hJ; exact done _ _ (by simpa using e ▸ hJ)
  | succ k ih =>
    intro i ys news e hJ
    refine CompRest.succ fun v I oI C oC D m₂ h tk E' hP hC hx F N off hne => ?_
    have o3 := off.mem
    exact wpAny_mono (turn i v ys news I oI C oC D m₂ h tk E' (by lia) hP hJ hC hx F N (fun p hp => (o3 p hp).1) (fun p hp => (o3 p hp).2.1) (fun p hp => (o3 p hp).2.2) hne)
      (fun y s' h' => h'.end fun y n hJ' => ⟨hS _ _ _ hJ', ih (i + 1) _ _ (by lia) hJ'⟩) fun _ _ e => e
theorem compZT {ct elt : PySem.Expr} {x : Str} {scope : Scope} {cl : List (Str × Addr)} {S : Led → Prop} {P : Nat → Value → Prop} {Fin : List Value → Led → Prop} {n : Nat} {news : Led} (J : Nat → List Value → Led → Prop)
    (hS : ∀ i ys n, J i ys n → S n)
    (turn : ∀ i v ys news I oI C oC D m₂ h tk (E' : Value → Shared → Prop), i < n → P i v → J i ys news → NsObj oC m₂ → m₂ x = some v → Fr h₀ L h m → News h₀ L h ((I, oI) :: (C, oC) :: (D, lst ys) :: news) → (∀ p ∈ news, p.1 ≠ I) → (∀ p ∈ news, p.1 ≠ C) → (∀ p ∈ news, p.1 ≠ D) → ((@Ne Nat I C) ∧ (@Ne Nat I D) ∧ (@Ne Nat C D)) →
      wpAny (model prog w) A (isTrue ct (compEnvC scope cl C env) (eval ct (compEnvC scope cl C env))) (fun ok s' => if ok = true then
        wpAny (model prog w) A (eval elt (compEnvC scope cl C env)) (CZ h₀ L m { s with heap := h, toks := tk } I oI C oC D (lst ys) (fun y n => J (i + 1) (ys ++ [y]) n)) E' s'
        else CZ h₀ L m { s with heap := h, toks := tk } I oI C oC D (lst ys) (fun _ n => J (i + 1) ys n) Value.none s') E' { s with heap := h, toks := tk })
    (done : ∀ ys news, J n ys news → Fin ys news) (J0 : J 0 [] news) : CompRestT prog w A h₀ L m env ct elt x scope cl s S P Fin n 0 [] news := by
  suffices H : ∀ k i ys news, i + k = n → J i ys news → CompRestT prog w A h₀ L m env ct elt x scope cl s S P Fin k i ys news from H n 0 [] news (Nat.zero_add n) J0
  intro k
  induction k with
  | zero => intro i ys news e hJ; exact done _ _ (by simpa using e ▸ hJ)
  | succ k ih =>
    intro i ys news e hJ
    refine CompRestT.succ fun v I oI C oC D m₂ h tk E' hP hC hx F N off hne => ?_
    have o3 := off.mem
    refine wpAny_mono (turn i v ys news I oI C oC D m₂ h tk E' (by lia) hP hJ hC hx F N (fun p hp => (o3 p hp).1) (fun p hp => (o3 p hp).2.1) (fun p hp => (o3 p hp).2.2) hne) (fun ok s' h' => ?_) fun _ _ e => e
    cases ok with
    | true =>
      simp only [if_true] at h' ⊢
      exact wpAny_mono h' (fun y s' h' => h'.end fun y n hJ' => ⟨hS _ _ _ hJ', ih (i + 1) _ _ (by lia) hJ'⟩) fun _ _ e => e
    | false =>
      simp only [Bool.false_eq_true, if_false] at h' ⊢
      exact h'.end fun y n hJ' => ⟨hS _ _ _ hJ', ih (i + 1) _ _ (by lia) hJ'⟩
theorem compZP {elt : PySem.Expr} {x x₂ : Str} {scope : Scope} {cl : List (Str × Addr)} {S : Led → Prop} {P : Nat → Value → Prop} {Fin : List Value → Led → Prop} {n : Nat} {news : Led} (J : Nat → List Value → Led → Prop)
    (hS : ∀ i ys n, J i ys n → S n)
    (turn : ∀ i v ys news, i < n → P i v → J i ys news → ∃ (t : Addr) (v₁ v₂ : Value), v = .ref t ∧ (t, tupOf #[v₁, v₂]) ∈ news ∧ ∀ I oI C oC D m₂ h tk (E' : Value → Shared → Prop), NsObj oC m₂ → m₂ x = some v₁ → m₂ x₂ = some v₂ → Fr h₀ L h m → News h₀ L h ((I, oI) :: (C, oC) :: (D, lst ys) :: news) → (∀ p ∈ news, p.1 ≠ I) → (∀ p ∈ news, p.1 ≠ C) → (∀ p ∈ news, p.1 ≠ D) → ((@Ne Nat I C) ∧ (@Ne Nat I D) ∧ (@Ne Nat C D)) →
      wpAny (model prog w) A (eval elt (compEnvC scope cl C env)) (CZ h₀ L m { s with heap := h, toks := tk } I oI C oC D (lst ys) (fun y n => J (i + 1) (ys ++ [y]) n)) E' { s with heap := h, toks := tk })
    (done : ∀ ys news, J n ys news → Fin ys news) (J0 : J 0 [] news) : CompRestP prog w A h₀ L m env elt x x₂ scope cl s S P Fin n 0 [] news := by
  suffices H : ∀ k i ys news, i + k = n → J i ys news → CompRestP prog w A h₀ L m env elt x x₂ scope cl s S P Fin k i ys news from H n 0 [] news (Nat.zero_add n) J0
  intro k
  induction k with
  | zero => intro i ys news e hJ; exact done _ _ (by simpa using e ▸ hJ)
  | succ k ih =>
    intro i ys news e hJ
    refine CompRestP.succ fun v hP => ?_
    obtain ⟨t, v₁, v₂, rfl, ht, hturn⟩ := turn i v ys news (by lia) hP hJ
    refine ⟨t, _, v₁, v₂, _, rfl, ht, rfl, rfl, fun I oI C oC D m₂ h tk E' hC hx hx₂ F N off hne => ?_⟩
    have o3 := off.mem
    exact wpAny_mono (hturn I oI C oC D m₂ h tk E' hC hx hx₂ F N (fun p hp => (o3 p hp).1) (fun p hp => (o3 p hp).2.1) (fun p hp => (o3 p hp).2.2) hne)
      (fun y s' h' => h'.end fun y n hJ' => ⟨hS _ _ _ hJ', ih (i + 1) _ _ (by lia) hJ'⟩) fun _ _ e => e
end
end Mine
namespace Mine
theorem pick_upto {vs : List Value} {y : Int} (h : 0 ≤ y) : slicePick vs.toArray none (some y) none = (vs.take y.toNat).toArray := by
  have e : sliceBounds none (some y) none vs.toArray.size = (((0 : Nat) : Int), ((min y.toNat vs.toArray.size : Nat) : Int), 1) := by
    simp only [sliceBounds, Option.getD_none, show (1 : Int) > 0 by decide, if_true, if_neg (show ¬ (y < 0) by lia)]
    congr 1
    congr 1
    exact clip_lift _ h
  rw [kmk_pick_nat _ e]
  show ((vs.drop 0).take (min y.toNat vs.toArray.size - 0)).toArray = _
  rw [List.drop_zero, Nat.sub_zero, List.size_toArray, kmk_take_min]
theorem pick_from {vs : List Value} {x : Int} (h : 0 ≤ x) : slicePick vs.toArray (some x) none none = (vs.drop x.toNat).toArray := by
  have e : sliceBounds (some x) none none vs.toArray.size = (((min x.toNat vs.toArray.size : Nat) : Int), ((vs.toArray.size : Nat) : Int), 1) := by
    simp only [sliceBounds, Option.getD_none, show (1 : Int) > 0 by decide, if_true, if_neg (show ¬ (x < 0) by lia)]
    congr 1
    lia
  rw [kmk_pick_nat _ e]
  show ((vs.drop (min x.toNat vs.toArray.size)).take (vs.toArray.size - min x.toNat vs.toArray.size)).toArray = _
  rw [List.size_toArray, kmk_drop_min, List.take_of_length_le (by rw [List.length_drop]; exact Nat.sub_le_sub_left (Nat.min_le_left _ _) _)]
theorem pick_run {vs : List Value} {x y : Int} (h : 0 ≤ x) (h2 : 0 ≤ y) : slicePick vs.toArray (some x) (some y) none = ((vs.take y.toNat).drop x.toNat).toArray := by
  have e : sliceBounds (some x) (some y) none vs.toArray.size = (((min x.toNat vs.toArray.size : Nat) : Int), ((min y.toNat vs.toArray.size : Nat) : Int), 1) := by
    simp only [sliceBounds, Option.getD_none, show (1 : Int) > 0 by decide, if_true, if_neg (show ¬ (x < 0) by lia), if_neg (show ¬ (y < 0) by lia)]
    congr 1
    · lia
    · congr 1
      lia
  rw [kmk_pick_nat _ e]
  show ((vs.drop (min x.toNat vs.toArray.size)).take (min y.toNat vs.toArray.size - min x.toNat vs.toArray.size)).toArray = _
  rw [List.size_toArray, ← List.drop_take, kmk_take_min]
  by_cases hx : x.toNat ≤ vs.length
  · rw [Nat.min_eq_left hx]
  · rw [Nat.min_eq_right (Nat.le_of_not_le hx), List.drop_of_length_le (by rw [List.length_take]; exact Nat.min_le_right _ _), List.drop_of_length_le (by rw [List.length_take]; exact Nat.le_trans (Nat.min_le_right _ _) (Nat.le_of_not_le hx))]
theorem fold_none (k : Nat) : List.foldl (fun x1 x2 : Array Value => x1 ++ x2) #[] (List.replicate (if (#[Value.none] : Array Value).isEmpty = true then 0 else k) #[Value.none]) = (List.replicate k Value.none).toArray := by
  have e : (if (#[Value.none] : Array Value).isEmpty = true then 0 else k) = k := rfl
  rw [e]
  have g : ∀ (k : Nat) (acc : Array Value), List.foldl (fun x1 x2 : Array Value => x1 ++ x2) acc (List.replicate k #[Value.none]) = acc ++ (List.replicate k Value.none).toArray := by
    intro k
    induction k with
    | zero => intro acc; simp
    | succ k ih => intro acc; rw [List.replicate_succ, List.foldl_cons, ih, List.replicate_succ]; apply Array.toList_inj.mp; simp
  rw [g]; simp
section
variable {prog : Program} {w : World} {A : Around} {E : Value → Shared → Prop} {s : Shared} {h₀ : Heap} {L a b l : Addr} {m : Str → Option Value} {news : Led} {vs ws zs : List Value} {n k : Nat} {Q : Value → Shared → Prop}
theorem add_led (F : Fr h₀ L s.heap m) (N : News h₀ L s.heap news) (ha : (a, PySem.W.listOf vs.toArray n) ∈ news) (hb : (b, PySem.W.listOf ws.toArray k) ∈ news) (hz : vs.length + ws.length ≤ sizeLine)
    (h : ∀ D h', Fr h₀ L h' m → News h₀ L h' ((D, PySem.W.listOf (vs ++ ws).toArray 0) :: news) → (∀ p ∈ news, p.1 < D) → Q (.ref D) { s with heap := h' }) : wpAny (model prog w) A (binaryOp .Add (.ref a) (.ref b)) Q E s :=
  add_arrays (hsz := by simpa using hz) F N (News.isList N ha) (News.isList N hb) fun h' F' N' => h _ h' F' N' fun p hp => Heap.lt_size (N p hp).1
theorem mul_led {x : Int} {u : Tok} (F : Fr h₀ L s.heap m) (N : News h₀ L s.heap news) (ha : (a, PySem.W.listOf #[Value.none] n) ∈ news) (hlo : -(2 ^ 63 : Int) ≤ x) (hhi : x < 10000)
    (h : ∀ D h', Fr h₀ L h' m → News h₀ L h' ((D, PySem.W.listOf (List.replicate x.toNat Value.none).toArray 0) :: news) → (∀ p ∈ news, p.1 < D) → Q (.ref D) { s with heap := h' }) : wpAny (model prog w) A (binaryOp .Mult (.ref a) (.int x u)) Q E s := by
  refine mul_list F N (N _ ha).1 hlo (by lia) (by show 1 * x.toNat ≤ 2 ^ 24; lia) fun h' F' N' => ?_
  rw [fold_none] at N'
  exact h _ h' F' N' fun p hp => Heap.lt_size (N p hp).1
theorem slice_led {value slice : PySem.Expr} {vl vu : Value} {lo hi : Option Int} (F : Fr h₀ L s.heap m) (N : News h₀ L s.heap news) (hl : (l, PySem.W.listOf vs.toArray n) ∈ news) (pl : IsPart vl lo) (pu : IsPart vu hi) (e : slicePick vs.toArray lo hi none = zs.toArray)
    (h : ∀ D h', Fr h₀ L h' m → News h₀ L h' ((D, PySem.W.listOf zs.toArray 0) :: news) → (∀ p ∈ news, p.1 < D) → Q (.ref D) { s with heap := h' })
    (hs : subscripted slice false (.ref l) (.ref s.heap.objs.size) = operate [.ref s.heap.objs.size, .ref l] (getItem (.ref l) (.ref s.heap.objs.size))) (ht : ∀ r, letTemporaryGo value (.ref l) r = pure ()) (hz : vs.length ≤ sizeLine) :
    wpAny (model prog w) A (subscriptTail value slice (.ref l) (.ref s.heap.objs.size)) Q E { s with heap := s.heap.push { cls := .type "slice", data := .fields #[vl, vu, .none] } } := by
  refine kmk_slice F N (News.isList N hl) pl pu (fun D h' F' N' l1 => h D h' F' ?_ l1) hs ht (by simpa using hz)
  rw [← e]; exact N'
theorem copy_led (F : Fr h₀ L s.heap m) (N : News h₀ L s.heap news) (hb : (b, PySem.W.listOf vs.toArray n) ∈ news) (hz : vs.length ≤ sizeLine)
    (h : ∀ D c h', Fr h₀ L h' m → News h₀ L h' ((D, PySem.W.listOf vs.toArray c) :: news) → (∀ q ∈ news, q.1 < D) → Q (.ref D) { s with heap := h' }) : wpAny (model prog w) A (call (.type "list") [.ref b]) Q E s :=
  kup_listOf F N hb rfl h hz
/-- zip of two lists of the ledger -/
def ZZ (h₀ h : Heap) (L z : Addr) (news : Led) (xs ys : List Value) : Prop := ∃ TI TO i1 i2 l1 l2, (h₀.get? z = none ∧ h₀.get? TO = none ∧ h₀.get? i1 = none ∧ h₀.get? i2 = none) ∧ ZSt z TI TO i1 i2 l1 l2 xs.toArray ys.toArray 0 h ∧ TO < h.objs.size ∧ (∀ p ∈ news, p.1 < z ∧ p.1 < TO ∧ p.1 < i1 ∧ p.1 < i2) ∧ L < z ∧ L < TO ∧ L < i1 ∧ L < i2
theorem zip_led (F : Fr h₀ L s.heap m) (N : News h₀ L s.heap news) (ha : (a, PySem.W.listOf vs.toArray n) ∈ news) (hb : (b, PySem.W.listOf ws.toArray k) ∈ news)
    (h : ∀ h' z, Fr h₀ L h' m → News h₀ L h' news → ZZ h₀ h' L z news vs ws → Q (.ref z) { s with heap := h' }) : wpAny (model prog w) A (call (.type "zip") [.ref a, .ref b]) Q E s := by
  refine zip_rows F (News.isList N ha) (News.isList N hb) fun h' z TI TO i1 i2 D st F' hk kz kTO k1 k2 hL => ?_
  have new : ∀ {b}, s.heap.objs.size ≤ b → h₀.get? b = none := fun {b} hb => by
    cases e : h₀.get? b with
    | none => rfl
    | some o => exact absurd (Heap.lt_size (F.keep _ _ e)) (Nat.not_lt.mpr hb)
  refine h h' z F' (N.grown hk) ⟨TI, TO, i1, i2, a, b, ⟨new kz, new kTO, new k1, new k2⟩, ⟨D, .inl ⟨st.1, st.2.2.1⟩, st.2.1, st.2.2.2.1, st.2.2.2.2.1, st.2.2.2.2.2.1, st.2.2.2.2.2.2⟩, ?_, fun p hp => ?_, hL⟩
  · obtain ⟨_, _, e⟩ := st.2.2.1; exact Heap.lt_size e
  · have := Heap.lt_size (N p hp).1
    exact ⟨Nat.lt_of_lt_of_le this kz, Nat.lt_of_lt_of_le this kTO, Nat.lt_of_lt_of_le this k1, Nat.lt_of_lt_of_le this k2⟩
def PairV (Z : Led) (v : Value) (p : Value × Value) : Prop := ∃ T, v = .ref T ∧ (T, tupOf #[p.1, p.2]) ∈ Z
theorem PairV.mono {Z Z' : Led} (e : Ext Z Z') : ∀ v p, PairV Z v p → PairV Z' v p := fun _ _ ⟨T, h1, h2⟩ => ⟨T, h1, e _ h2⟩
theorem Ents.led {h : Heap} {n0 : Nat} {ts : List Addr} {ps : List (Value × Value)} (e : Ents h n0 ts ps) : ∃ Y : Led, (∀ p ∈ Y, h.get? p.1 = some p.2 ∧ n0 < p.1) ∧ All2 (PairV Y) (ts.map Value.ref) ps := by
  induction e with
  | nil => exact ⟨[], fun p hp => (nomatch hp), .nil⟩
  | @snoc ts ps T x y _ h1 h2 ih =>
    obtain ⟨Y, hY, hA⟩ := ih
    refine ⟨(T, tupOf #[x, y]) :: Y, fun p hp => ?_, ?_⟩
    · rcases List.mem_cons.mp hp with rfl | hp
      · exact ⟨h1, h2⟩
      · exact hY p hp
    · rw [List.map_append]
      exact (hA.mono (PairV.mono (Ext.refl.cons))).snoc ⟨T, rfl, List.mem_cons_self⟩
theorem listzip_led {z : Addr} {E₁ Z : Led} (hh : A.handled = none) (F : Fr h₀ L s.heap m) (N : News h₀ L s.heap news) (S : Spl Z news E₁) (hZZ : ZZ h₀ s.heap L z news vs ws) (hoff : OffAll E₁ Z) (hz : vs.length ≤ sizeLine)
    (h : ∀ D c h' us Z', Ext Z Z' → OffAll E₁ Z' → Fr h₀ L h' m → News h₀ L h' ((D, PySem.W.listOf (us : List Value).toArray c) :: (E₁ ++ Z')) → All2 (PairV Z') us (vs.zip ws) → (∀ p ∈ E₁ ++ Z', p.1 ≠ D) → (∀ x : Addr, (∀ p ∈ Z, p.1 ≠ x) → x < s.heap.objs.size → ∀ p ∈ Z', p.1 ≠ x) → Q (.ref D) { s with heap := h' }) :
    wpAny (model prog w) A (call (.type "list") [.ref z]) Q E s := by
  obtain ⟨TI, TO, i1, i2, l1, l2, ⟨z1, z2, z3, z4⟩, st, hTO, lo, g1, g2, g3, g4⟩ := hZZ
  have e := S.eq
  subst e
  refine call_list_zip hh (by simp; lia) hTO st fun h' ts c hk hS he => ?_
  obtain ⟨Y, hY, hA⟩ := he.led
  have new : ∀ {b}, s.heap.objs.size ≤ b → h₀.get? b = none := fun {b} hb => by
    cases e : h₀.get? b with
    | none => rfl
    | some o => exact absurd (Heap.lt_size (F.keep _ _ e)) (Nat.not_lt.mpr hb)
  have ne0 : ∀ {b c o}, h₀.get? b = none → h₀.get? c = some o → c ≠ b := fun {b c o} h1 h2 e => by rw [e, h1] at h2; cases h2
  have hL := F.ns.lt
  have F' : Fr h₀ L h' m := ⟨F.ns.at' fun o e => hk L o (Nat.ne_of_lt g1) (Nat.ne_of_lt g2) (Nat.ne_of_lt g3) (Nat.ne_of_lt g4) e, fun b o e => hk b o (ne0 z1 e) (ne0 z2 e) (ne0 z3 e) (ne0 z4 e) (F.keep b o e), F.above⟩
  have N1 : News h₀ L h' (E₁ ++ Z) := fun p hp => ⟨hk _ _ (Nat.ne_of_lt (lo p hp).1) (Nat.ne_of_lt (lo p hp).2.1) (Nat.ne_of_lt (lo p hp).2.2.1) (Nat.ne_of_lt (lo p hp).2.2.2) (N p hp).1, (N p hp).2⟩
  have N2 : News h₀ L h' Y := fun p hp => ⟨(hY p hp).1, Nat.ne_of_gt (Nat.lt_trans hL (hY p hp).2), new (Nat.le_of_lt (hY p hp).2)⟩
  have ltE : ∀ p ∈ E₁ ++ Z, p.1 < s.heap.objs.size := fun p hp => Heap.lt_size (N p hp).1
  refine h _ c h' (ts.map Value.ref) (Y ++ Z) Ext.appl ?_ F' ?_ ?_ ?_ ?_
  · refine offAll_of fun e he q hq => ?_
    rcases List.mem_append.mp hq with hq | hq
    · exact Nat.ne_of_gt (Nat.lt_trans (ltE e (List.mem_append_left _ he)) (hY q hq).2)
    · exact offAll_mem hoff e he q hq
  · intro p hp
    rcases List.mem_cons.mp hp with rfl | hp
    · exact ⟨hS, Nat.ne_of_gt hL, new (Nat.le_refl _)⟩
    · rcases List.mem_append.mp hp with hp | hp
      · exact N1 p (List.mem_append_left _ hp)
      · rcases List.mem_append.mp hp with hp | hp
        · exact N2 p hp
        · exact N1 p (List.mem_append_right _ hp)
  · exact hA.mono (PairV.mono Ext.appr)
  · intro p hp
    rcases List.mem_append.mp hp with hp | hp
    · exact Nat.ne_of_lt (ltE p (List.mem_append_left _ hp))
    · rcases List.mem_append.mp hp with hp | hp
      · exact Nat.ne_of_gt (hY p hp).2
      · exact Nat.ne_of_lt (ltE p (List.mem_append_right _ hp))
  · intro x hx hxl p hp
    rcases List.mem_append.mp hp with hp | hp
    · exact Nat.ne_of_gt (Nat.lt_trans hxl (hY p hp).2)
    · exact hx p hp
end
end Mine
namespace Mine
def KeepS (st : List Str) (m₀ m : Str → Option Value) : Prop := ∀ y, st.contains y = false → m y = m₀ y
theorem keepS_eq {st : List Str} {m₀ m : Str → Option Value} (h : KeepS st m₀ m) : m = fun y => if st.contains y then m y else m₀ y := by
  funext y
  cases h2 : st.contains y with
  | true => simp
  | false => simp only [Bool.false_eq_true, if_false]; exact h y h2
theorem keepS1_eq {x : Str} {v : Value} {st : List Str} {m₀ m : Str → Option Value} (h : KeepS (x :: st) m₀ m) (hx : m x = some v) : m = fun y => if y = x then some v else if st.contains y then m y else m₀ y := by
  funext y
  by_cases h1 : y = x
  · subst h1; simp [hx]
  · simp only [if_neg h1]
    cases h2 : st.contains y with
    | true => simp
    | false =>
      simp only [Bool.false_eq_true, if_false]
      refine h y ?_
      rw [List.contains_cons, h2, Bool.or_false]
      exact beq_false_of_ne h1
section
variable {prog : Program} {w : World} {A : Around} {E : Value → Shared → Prop} {s : Shared} {env : Env} {h₀ : Heap} {target : PySem.Expr} {body : List Stmt} {Q : Flow → Shared → Prop}
theorem turnT {L : Addr} {J : Led → Prop} {I : Addr} {io : Obj} {st : List Str} {m₀ : Str → Option Value} {s₁ : Shared} {h' : Heap} {tk : Nat} {m' : Str → Option Value} {all : Led}
    (F : Fr h₀ L h' m') (N : News h₀ L h' all) (hm : KeepS st m₀ m') (news' : Led) (hs : Ext ((I, io) :: news') all) (hI : ∀ p ∈ news', p.1 ≠ I) (hJ : J news') :
    TurnZ h₀ L (fun m n => KeepS st m₀ m ∧ J n) I io Q s₁ .next { s₁ with heap := h', toks := tk } := TurnZ.intro F N news' hs hI ⟨hm, hJ⟩
theorem turnT1 {L : Addr} {x : Str} {v : Value} {J : Value → Led → Prop} {I : Addr} {io : Obj} {st : List Str} {m₀ : Str → Option Value} {s₁ : Shared} {h' : Heap} {tk : Nat} {m' : Str → Option Value} {all : Led}
    (F : Fr h₀ L h' m') (N : News h₀ L h' all) (hm : KeepS (x :: st) m₀ m') (hx : m' x = some v) (news' : Led) (hs : Ext ((I, io) :: news') all) (hI : ∀ p ∈ news', p.1 ≠ I) (hJ : J v news') :
    TurnZ h₀ L (fun m n => KeepS (x :: st) m₀ m ∧ ∃ v, m x = some v ∧ J v n) I io Q s₁ .next { s₁ with heap := h', toks := tk } := TurnZ.intro F N news' hs hI ⟨hm, v, hx, hJ⟩
theorem tupT {l : Addr} {vs : List Value} {m₀ : Str → Option Value} {news : Led} (st : List Str) (J : Nat → Led → Prop)
    (hh : A.handled = none) (hl : ∀ i n, J i n → (l, tupOf vs.toArray) ∈ n) (F : Fr h₀ env.locals s.heap m₀) (N : News h₀ env.locals s.heap news) (J0 : J 0 news)
    (turn : ∀ i v (u : Str → Option Value) news₁ I io h tk, vs[i]? = some v → J i news₁ → (∀ p ∈ news₁, p.1 ≠ I) → Fr h₀ env.locals h (fun y => if st.contains y then u y else m₀ y) → News h₀ env.locals h ((I, io) :: news₁) →
      wpAny (model prog w) A (assign target env v) (fun _ s₃ => wpAny (model prog w) A (execs body env) (TurnZ h₀ env.locals (fun m n => KeepS st m₀ m ∧ J (i + 1) n) I io Q { s with heap := h, toks := tk }) E s₃) E { s with heap := h, toks := tk })
    (done : ∀ (u : Str → Option Value) news₁ h tk, J vs.length news₁ → Fr h₀ env.locals h (fun y => if st.contains y then u y else m₀ y) → News h₀ env.locals h news₁ → Q .next { s with heap := h, toks := tk }) :
    wpAny (model prog w) A (pyIter (.ref l)) (fun it s₂ => TurnsAt prog w A h₀ env target body Q E it s₂) E s := by
  refine iterT_tuple (fun i m n => KeepS st m₀ m ∧ J i n) hh (fun i m n h => hl i n h.2) F N ⟨fun _ _ => rfl, J0⟩ ?_ ?_
  · rintro i v m₁ news₁ I io h tk hv ⟨hm, hJ⟩ ho F₁ N₁
    rw [keepS_eq hm] at F₁
    exact turn i v m₁ news₁ I io h tk hv hJ ho F₁ N₁
  · rintro m₁ news₁ h tk ⟨hm, hJ⟩ F₁ N₁
    rw [keepS_eq hm] at F₁
    exact done m₁ news₁ h tk hJ F₁ N₁
theorem listT {l : Addr} {vs : List Value} {nl : Nat} {m₀ : Str → Option Value} {news : Led} (st : List Str) (J : Nat → Led → Prop)
    (hh : A.handled = none) (hl : ∀ i n, J i n → (l, PySem.W.listOf vs.toArray nl) ∈ n) (F : Fr h₀ env.locals s.heap m₀) (N : News h₀ env.locals s.heap news) (J0 : J 0 news)
    (turn : ∀ i v (u : Str → Option Value) news₁ I io h tk, vs[i]? = some v → J i news₁ → (∀ p ∈ news₁, p.1 ≠ I) → Fr h₀ env.locals h (fun y => if st.contains y then u y else m₀ y) → News h₀ env.locals h ((I, io) :: news₁) →
      wpAny (model prog w) A (assign target env v) (fun _ s₃ => wpAny (model prog w) A (execs body env) (TurnZ h₀ env.locals (fun m n => KeepS st m₀ m ∧ J (i + 1) n) I io Q { s with heap := h, toks := tk }) E s₃) E { s with heap := h, toks := tk })
    (done : ∀ (u : Str → Option Value) news₁ h tk, J vs.length news₁ → Fr h₀ env.locals h (fun y => if st.contains y then u y else m₀ y) → News h₀ env.locals h news₁ → Q .next { s with heap := h, toks := tk }) :
    wpAny (model prog w) A (pyIter (.ref l)) (fun it s₂ => TurnsAt prog w A h₀ env target body Q E it s₂) E s := by
  refine iterT_list (fun i m n => KeepS st m₀ m ∧ J i n) hh (fun i m n h => hl i n h.2) F N ⟨fun _ _ => rfl, J0⟩ ?_ ?_
  · rintro i v m₁ news₁ I io h tk hv ⟨hm, hJ⟩ ho F₁ N₁
    rw [keepS_eq hm] at F₁
    exact turn i v m₁ news₁ I io h tk hv hJ ho F₁ N₁
  · rintro m₁ news₁ h tk ⟨hm, hJ⟩ F₁ N₁
    rw [keepS_eq hm] at F₁
    exact done m₁ news₁ h tk hJ F₁ N₁
theorem listT1 {l : Addr} {vs : List Value} {nl : Nat} {m₀ : Str → Option Value} {news : Led} {v₀ : Value} (x : Str) (st : List Str) (J : Nat → Value → Led → Prop)
    (hh : A.handled = none) (hl : ∀ i v n, J i v n → (l, PySem.W.listOf vs.toArray nl) ∈ n) (F : Fr h₀ env.locals s.heap m₀) (N : News h₀ env.locals s.heap news) (hx : m₀ x = some v₀) (J0 : J 0 v₀ news)
    (turn : ∀ i v v₁ (u : Str → Option Value) news₁ I io h tk, vs[i]? = some v → J i v₁ news₁ → (∀ p ∈ news₁, p.1 ≠ I) → Fr h₀ env.locals h (fun y => if y = x then some v₁ else if st.contains y then u y else m₀ y) → News h₀ env.locals h ((I, io) :: news₁) →
      wpAny (model prog w) A (assign target env v) (fun _ s₃ => wpAny (model prog w) A (execs body env) (TurnZ h₀ env.locals (fun m n => KeepS (x :: st) m₀ m ∧ ∃ v, m x = some v ∧ J (i + 1) v n) I io Q { s with heap := h, toks := tk }) E s₃) E { s with heap := h, toks := tk })
    (done : ∀ v₁ (u : Str → Option Value) news₁ h tk, J vs.length v₁ news₁ → Fr h₀ env.locals h (fun y => if y = x then some v₁ else if st.contains y then u y else m₀ y) → News h₀ env.locals h news₁ → Q .next { s with heap := h, toks := tk }) :
    wpAny (model prog w) A (pyIter (.ref l)) (fun it s₂ => TurnsAt prog w A h₀ env target body Q E it s₂) E s := by
  refine iterT_list (fun i m n => KeepS (x :: st) m₀ m ∧ ∃ v, m x = some v ∧ J i v n) hh (fun i m n h => let ⟨_, v, _, hj⟩ := h; hl i v n hj) F N ⟨fun _ _ => rfl, v₀, hx, J0⟩ ?_ ?_
  · rintro i v m₁ news₁ I io h tk hv ⟨hm, v₁, hx₁, hJ⟩ ho F₁ N₁
    rw [keepS1_eq hm hx₁] at F₁
    exact turn i v v₁ m₁ news₁ I io h tk hv hJ ho F₁ N₁
  · rintro m₁ news₁ h tk ⟨hm, v₁, hx₁, hJ⟩ F₁ N₁
    rw [keepS1_eq hm hx₁] at F₁
    exact done v₁ m₁ news₁ h tk hJ F₁ N₁
end
end Mine
namespace Mine
theorem led_tuple {h₀ h : Heap} {L a : Addr} {news : Led} {xs : Array Value} (N : News h₀ L h news) (hm : (a, tupOf xs) ∈ news) : h.IsTuple a xs := ⟨_, (N _ hm).1, rfl, _, rfl⟩
end Mine
namespace Mine
theorem allLt_mem {x : Addr} : ∀ {Z : Led}, AllLt x Z → ∀ {q : Addr × Obj}, q ∈ Z → q.1 < x
  | [], _, _, h => nomatch h
  | _ :: _, a, q, h => by
    rcases List.mem_cons.mp h with rfl | h
    · exact a.1
    · exact allLt_mem a.2 h
end Mine
namespace Mine
def relit (P : Params) (e : DictEntry) : DictEntry := match e.key with
  | .str x t => ⟨PyData.keyHash P x, .str x t, e.val⟩
  | _ => ⟨PyData.keyHash P (Str.ofString ""), .str (Str.ofString "") 0, e.val⟩
theorem relit_ok (P : Params) (e : DictEntry) : ∃ x t, (relit P e).key = .str x t ∧ (relit P e).hash = PyData.keyHash P x := by
  unfold relit
  split <;> exact ⟨_, _, rfl, rfl⟩
theorem keysLit {P : Params} : ∀ {l : List DictEntry}, l = l.map (relit P) → KeysLit P l
  | [], _ => trivial
  | e :: r, h => by
    have h' := List.cons.inj h
    obtain ⟨x, t, a, b⟩ := relit_ok P e
    exact ⟨⟨x, t, h'.1 ▸ a, h'.1 ▸ b⟩, keysLit h'.2⟩
def entK (K : Frag) (a : Addr) : Array DictEntry := match K.lookup a with
  | some o => match o.data with
    | .dict es _ => es
    | _ => #[]
  | none => #[]
def cntK (K : Frag) (a : Addr) : Nat := match K.lookup a with
  | some o => match o.data with
    | .dict _ n => n
    | _ => 0
  | none => 0
section
variable {prog : Program} {w : World} {A : Around} {E : Value → Shared → Prop} {s : Shared} {K : Frag} {h₀ : Heap} {L a : Addr} {m : Str → Option Value} {x : Str} {t : Tok} {n : Nat} {es : Array DictEntry}
theorem topNotIn_K {r : Option Value} {Q : Value → Shared → Prop} (F : Fr h₀ L s.heap m) (X₀ : K.In h₀) (hl : K.lookup a = some ⟨.type "dict", none, .dict es n, #[]⟩) (hk : KeysLit w.params es.toList) (e : nsIn K a x = some r) (lo : (a == sysModules) = false)
    (h : Q (.bool (!r.isSome)) { s with toks := s.toks + 1 }) : wpAny (model prog w) A (compareOp .NotIn (.str x t) (.ref a)) Q E s :=
  wpAny_notIn_of (strKind_is prog w x t) lo (mapOf_K (prog := prog) (X₀.keeps F.keep) hl hk) (by rw [find_K hl e]; exact h)
theorem topNotIn_L {r : Option Value} {Q : Value → Shared → Prop} (F : Fr h₀ L s.heap m) (X₀ : K.In h₀) (hl : K.lookup a = some ⟨.type "dict", none, .dict (entK K a) (cntK K a), #[]⟩) (hk : (entK K a).toList = (entK K a).toList.map (relit w.params)) (e : nsIn K a x = some r) (lo : (a == sysModules) = false)
    (h : Q (.bool (!r.isSome)) { s with toks := s.toks + 1 }) : wpAny (model prog w) A (compareOp .NotIn (.str x t) (.ref a)) Q E s := topNotIn_K F X₀ hl (keysLit hk) e lo h
theorem topItem_L {v : Value} {value slice : PySem.Expr} {Q : Value → Shared → Prop} (F : Fr h₀ L s.heap m) (X₀ : K.In h₀) (hl : K.lookup a = some ⟨.type "dict", none, .dict (entK K a) (cntK K a), #[]⟩) (hk : (entK K a).toList = (entK K a).toList.map (relit w.params)) (e : nsIn K a x = some (some v))
    (h : Q v { s with toks := s.toks + 1 })
    (hs : subscripted slice false (.ref a) (.str x t) = operate [.ref a, .str x t] (getItem (.ref a) (.str x t)) := by with_unfolding_all rfl) :
    wpAny (model prog w) A (subscriptTail value slice (.ref a) (.str x t)) Q E s := topItem_K F X₀ hl (keysLit hk) e h hs
end
end Mine
namespace Mine
inductive Tl (Y : Led) : Led → Prop
  | here : Tl Y Y
  | cons {p r} : Tl Y r → Tl Y (p :: r)
theorem Tl.sub {Y n : Led} (t : Tl Y n) : Ext Y n := by
  induction t with
  | here => exact Ext.refl
  | cons _ ih => exact ih.cons
theorem Tl.app {E Z : Led} : Tl (E ++ Z) (E ++ Z) := .here
theorem tl_off {Y n : Led} {x : Addr} (h : ∀ p ∈ n, p.1 < x) (t : Tl Y n) : ∀ q ∈ Y, q.1 ≠ x := fun q hq => Nat.ne_of_lt (h q (t.sub q hq))
theorem off_appR {E Z : Led} {x : Addr} (h : ∀ q ∈ E ++ Z, q.1 ≠ x) : ∀ q ∈ Z, q.1 ≠ x := (off_app h).2
theorem off_appL {E Z : Led} {x : Addr} (h : ∀ q ∈ E ++ Z, q.1 ≠ x) : ∀ q ∈ E, q.1 ≠ x := (off_app h).1
end Mine
namespace Mine
theorem off1_mem {D : Addr} : ∀ {l : Led}, LCg.Off1 D l → ∀ p ∈ l, p.1 ≠ D
  | [], _, _, h => nomatch h
  | _ :: _, x, p, h => by
    rcases List.mem_cons.mp h with rfl | h
    · exact x.1
    · exact off1_mem x.2 p h
theorem finE {h₀ : Heap} {L : Addr} {m : Str → Option Value} {s : Shared} {Q : Value → Shared → Prop} {ys : List Value} {news : Led}
    (h : ∀ D h tk, Fr h₀ L h m → News h₀ L h ((D, PySem.W.listOf ys.toArray ys.length) :: news) → (∀ p ∈ news, p.1 ≠ D) → Q (.ref D) { s with heap := h, toks := tk }) : LCg.FinE h₀ L m s Q ys news :=
  fun D h' tk F N o => h D h' tk F N (off1_mem o)
theorem finA {h₀ : Heap} {L : Addr} {m : Str → Option Value} {s : Shared} {y : Str} {Q : Flow → Shared → Prop} {ys : List Value} {news : Led}
    (h : ∀ D h tk, Fr h₀ L h (fun z => if z = y then some (.ref D) else m z) → News h₀ L h ((D, PySem.W.listOf ys.toArray ys.length) :: news) → (∀ p ∈ news, p.1 ≠ D) → Q .next { s with heap := h, toks := tk }) : LCg.FinA h₀ L m s y Q ys news :=
  fun D h' tk F N o => h D h' tk F N (off1_mem o)
theorem take_snoc {α : Type} {l : List α} {j : Nat} {x : α} (h : l[j]? = some x) : l.take (j + 1) = l.take j ++ [x] := by rw [List.take_succ, h]; rfl
end Mine
namespace Mine
theorem upd_of {D : Addr} {o o' : Obj} {post : Led} : ∀ {pre : Led}, (∀ p ∈ pre, p.1 ≠ D) → (∀ p ∈ post, p.1 ≠ D) → Upd D o o' (pre ++ (D, o) :: post) (pre ++ (D, o') :: post)
  | [], _, h => .head h
  | _ :: _, a, h => .tail (a _ List.mem_cons_self) (upd_of (fun p hp => a p (List.mem_cons_of_mem _ hp)) h)
section
variable {prog : Program} {w : World} {A : Around} {E : Value → Shared → Prop} {s : Shared} {h₀ : Heap} {L D b : Addr} {m : Str → Option Value} {news : Led} {vs ws : List Value} {n k : Nat} {Q : Value → Shared → Prop} {g : Obj → Led}
theorem extend_led (F : Fr h₀ L s.heap m) (N : News h₀ L s.heap news) (hb : (b, PySem.W.listOf ws.toArray k) ∈ news) (U : UpdF D (PySem.W.listOf vs.toArray n) news g) (hz : vs.length + ws.length ≤ 10000)
    (h : ∀ h' n', Fr h₀ L h' m → News h₀ L h' (g (PySem.W.listOf (vs ++ ws).toArray n')) → Q .none { s with heap := h' }) : wpAny (model prog w) A (call (.builtin "list.extend") [.ref D, .ref b]) Q E s := by
  obtain ⟨pre, post, rfl, hg, a, c⟩ := U.split
  have hl : ¬(!vs.toArray.isEmpty && Builtin.List.listTooLong (vs.toArray.size + ws.toArray.size)) = true := by
    simp [Builtin.List.listTooLong, sizeLine_eq]; intro _; lia
  have z1 : vs.toArray.toList.length ≤ sizeLine := by rw [sizeLine_eq]; simp; lia
  have z2 : vs.toArray.size + ws.toArray.size ≤ sizeLine + 1 := by rw [sizeLine_eq]; simp; lia
  cases ws with
  | nil =>
    refine kxn_extend F N hb rfl (upd_of a c) hl z1 z2 fun h' F' N' => h h' n F' ?_
    rw [hg, List.append_nil]; exact N'
  | cons x r =>
    refine kl_extend F N hb rfl (by simp) (upd_of a c) hl z1 z2 fun h' F' N' => h h' (n + 1) F' ?_
    rw [hg]; exact N'
end
def plNames : Pl → List Str
  | .nm x => [x]
  | .gp x y => [x, y]
def optNe : Option Str → List Str
  | none => []
  | some x => if x = "" then [] else [x]
def optL : Option Str → List Str
  | none => []
  | some x => [x]
def namesOf (R : Row) : List Str := R.fr.flatMap plNames ++ R.op ++ optNe R.re ++ R.ba.flatMap plNames ++ optL R.bl
end Mine
end
section
set_option maxRecDepth 100000
namespace Mine
theorem take_flat {α : Type} {l : List (List α)} {i : Nat} {x : List α} (h : l[i]? = some x) : (l.take (i + 1)).flatten = (l.take i).flatten ++ x := by rw [take_snoc h]; simp
section
variable {prog : Program} {w : World} {A : Around} {E : Value → Shared → Prop} {s : Shared} {h₀ : Heap} {L D b : Addr} {m : Str → Option Value} {news : Led} {vs ws : List Value} {n k : Nat} {Q : Value → Shared → Prop} {g : Obj → Led}
theorem extend_use (F : Fr h₀ L s.heap m) (N : News h₀ L s.heap news) (hb : (b, PySem.W.listOf ws.toArray k) ∈ news) (U : UpdF D (PySem.W.listOf vs.toArray n) news g) (hz : vs.length ≤ 5000) (hz2 : ws.length ≤ 5000)
    (h : ∀ h' n', Fr h₀ L h' m → News h₀ L h' (g (PySem.W.listOf (vs ++ ws).toArray n')) → Q .none { s with heap := h' }) : wpAny (model prog w) A (call (.builtin "list.extend") [.ref D, .ref b]) Q E s :=
  extend_led F N hb U (by lia) h
end
end Mine
namespace Mine
def CutF (g : Heap) (L : Addr) (m : Str → Option Value) (J : Led → Prop) (s : Shared) (f : Flow) (s' : Shared) : Prop :=
  f = .next ∧ ∃ h' tk n, s' = { s with heap := h', toks := tk } ∧ Fr g L h' m ∧ News g L h' n ∧ J n
theorem CutF.intro {g : Heap} {L : Addr} {m : Str → Option Value} {J : Led → Prop} {s : Shared} {h' : Heap} {tk : Nat} {all : Led} (F : Fr g L h' m) (N : News g L h' all) (n : Led) (hs : Ext n all) (hJ : J n) :
    CutF g L m J s .next { s with heap := h', toks := tk } := ⟨rfl, h', tk, n, rfl, F, nsub N hs, hJ⟩
theorem cutX {M : Model} {A : Around} {t : Sem Flow} {Q : Flow → Shared → Prop} {E : Value → Shared → Prop} {s : Shared} {g : Heap} {L : Addr} {m : Str → Option Value} (J : Led → Prop) (_F : Fr g L s.heap m)
    (h : wpAny M A t (CutF g L m J s) E s) (k : ∀ h' tk n, Fr g L h' m → News g L h' n → J n → Q .next { s with heap := h', toks := tk }) : wpAny M A t Q E s :=
  wpAny_mono h (fun _ _ ⟨e1, h', tk, n, e, F', N', hJ⟩ => e1 ▸ e ▸ k h' tk n F' N' hJ) fun _ _ e => e
end Mine
namespace Mine
theorem str_empty {x : Str} (h : ((x.length : Nat) : Int) = 0) : x = "" := by
  have h' : x.cps.size = 0 := by have : x.length = 0 := by lia
                                 exact this
  cases x with
  | mk cps =>
    have e : cps = #[] := Array.eq_empty_of_size_eq_zero h'
    subst e
    rfl
theorem str_nonempty {x : Str} (h : ((x.length : Nat) : Int) ≠ 0) : ¬ x = "" := by
  rintro rfl
  exact h (by decide)
theorem StrV.rpl {Z : Led} {vs : List Value} {ss : List Str} (h : All2 StrV vs ss) : All2 (RPl Z) vs (ss.map .nm) := by
  induction h with
  | nil => exact .nil
  | cons h _ ih => exact .cons h ih
section
variable {prog : Program} {w : World} {A : Around} {E : Value → Shared → Prop} {s : Shared} {env : Env} {h₀ : Heap} {x : Str} {body : List Stmt} {Q : Flow → Shared → Prop}
end
end Mine
end
section
set_option maxRecDepth 100000
namespace Mine
inductive AV | lf (v : Value) | ar (a : Addr) (its : List AV)
def AV.val : AV → Value
  | .lf v => v
  | .ar a _ => .ref a
def AV.its : AV → List AV
  | .lf v => [.lf v]
  | .ar _ its => its
abbrev noneA : AV := .lf .none
inductive ListAt (Z : Led) (a : Addr) (vs : List Value) : Prop
  | mk (dx : Addr) (es : List DictEntry) (n : Nat) (li : Addr) (nl : Nat) (k : Int) (t : Tok) (h1 : (a, instObj 261 dx) ∈ Z) (h2 : (dx, dictOf es n) ∈ Z) (h3 : getL (Str.ofString "number") es = some (some (.int k t))) (h4 : getL (Str.ofString "items") es = some (some (.ref li))) (h5 : (li, PySem.W.listOf vs.toArray nl) ∈ Z)
theorem ListAt.mono {Z Z' : Led} (e : Ext Z Z') {a : Addr} {vs : List Value} (h : ListAt Z a vs) : ListAt Z' a vs := by
  obtain ⟨dx, es, n, li, nl, k, t, h1, h2, h3, h4, h5⟩ := h
  exact ⟨dx, es, n, li, nl, k, t, e _ h1, e _ h2, h3, h4, e _ h5⟩
inductive AVOk (Z : Led) : AV → Prop
  | none : AVOk Z (.lf .none)
  | int {k t} : AVOk Z (.lf (.int k t))
  | ar {a its} : its.length ≤ 30 → ListAt Z a (its.map AV.val) → (∀ x ∈ its, AVOk Z x) → AVOk Z (.ar a its)
theorem AVOk.mono {Z Z' : Led} (e : Ext Z Z') {v : AV} (h : AVOk Z v) : AVOk Z' v := by
  induction h with
  | none => exact .none
  | int => exact .int
  | ar h0 h1 _ ih => exact .ar h0 (h1.mono e) ih
inductive DV | one (v : AV) | many (vs : List AV)
def DVAt (Z : Led) (w : Value) : DV → Prop
  | .one v => w = v.val ∧ AVOk Z v
  | .many vs => vs.length ≤ 30 ∧ (∀ v ∈ vs, AVOk Z v) ∧ ∃ l n, w = .ref l ∧ (l, PySem.W.listOf (vs.map AV.val).toArray n) ∈ Z
theorem DVAt.mono {Z Z' : Led} (e : Ext Z Z') : ∀ {w : Value} {d : DV}, DVAt Z w d → DVAt Z' w d
  | _, .one _, ⟨h1, h2⟩ => ⟨h1, h2.mono e⟩
  | _, .many _, ⟨h0, h1, l, n, h2, h3⟩ => ⟨h0, fun v hv => (h1 v hv).mono e, l, n, h2, e _ h3⟩
def FVAt (Z : Led) (w : Value) : DV → Prop
  | .one v => w = v.val ∧ AVOk Z v
  | .many vs => vs.length ≤ 30 ∧ (∀ v ∈ vs, AVOk Z v) ∧ ∃ a, w = .ref a ∧ ListAt Z a (vs.map AV.val)
theorem FVAt.mono {Z Z' : Led} (e : Ext Z Z') : ∀ {w : Value} {d : DV}, FVAt Z w d → FVAt Z' w d
  | _, .one _, ⟨h1, h2⟩ => ⟨h1, h2.mono e⟩
  | _, .many _, ⟨h0, h1, a, h2, h3⟩ => ⟨h0, fun v hv => (h1 v hv).mono e, a, h2, h3.mono e⟩
/-- a pair (place, value) as _law_pairs makes it -/
inductive FP (Z : Led) (v : Value) (p : Pl × DV) : Prop
  | mk (T : Addr) (sv w : Value) (e : v = .ref T) (h : (T, tupOf #[sv, w]) ∈ Z) (r : RPl Z sv p.1) (d : DVAt Z w p.2)
theorem FP.mono {Z Z' : Led} (e : Ext Z Z') : ∀ v p, FP Z v p → FP Z' v p := fun _ _ ⟨T, sv, w, h1, h2, h3, h4⟩ => ⟨T, sv, w, h1, e _ h2, h3.mono e _ _, h4.mono e⟩
/-- a pair (name, value) -/
inductive NP (Z : Led) (v : Value) (p : Str × DV) : Prop
  | mk (T : Addr) (t : Tok) (w : Value) (e : v = .ref T) (h : (T, tupOf #[.str p.1 t, w]) ∈ Z) (d : DVAt Z w p.2)
theorem NP.mono {Z Z' : Led} (e : Ext Z Z') : ∀ v p, NP Z v p → NP Z' v p := fun _ _ ⟨T, t, w, h1, h2, h4⟩ => ⟨T, t, w, h1, e _ h2, h4.mono e⟩
def g0 (v : AV) : AV := (v.its ++ [noneA, noneA]).getD 0 noneA
def g1 (v : AV) : AV := (v.its ++ [noneA, noneA]).getD 1 noneA
def spread : Pl × DV → List (Str × DV)
  | (.nm x, d) => [(x, d)]
  | (.gp x y, .one v) => [(x, .one (g0 v)), (y, .one (g1 v))]
  | (.gp _ _, .many _) => []
def fitA (R : Row) (as : List AV) : List AV :=
  let a := as ++ List.replicate (R.fr.length + R.ba.length - as.length) noneA
  if R.re = none then a.take (R.fr.length + R.op.length + R.ba.length) else a
def cameA (R : Row) (a : List AV) : Nat := min R.op.length (a.length - R.fr.length - R.ba.length)
def zipP (pls : List Pl) (as : List AV) : List (Pl × DV) := (pls.zip as).map fun p => (p.1, .one p.2)
def restA (R : Row) (a : List AV) : List (Pl × DV) := (optNe R.re).map fun x => (Pl.nm x, DV.many ((a.take (a.length - R.ba.length)).drop (R.fr.length + cameA R a)))
def specA (R : Row) (a : List AV) : List (Pl × DV) :=
  zipP R.fr a ++ zipP (R.op.map .nm) ((a.take (R.fr.length + cameA R a)).drop R.fr.length) ++ restA R a ++ zipP R.ba (a.drop (a.length - R.ba.length))
def assigns (R : Row) (a : List AV) : List (Str × DV) := (specA R a).flatMap spread
theorem zip_FP {Z : Led} {vs : List Value} {pls : List Pl} {as : List AV} (h : All2 (RPl Z) vs pls) (ha : ∀ v ∈ as, AVOk Z v) : ∀ {us : List Value}, All2 (PairV Z) us (vs.zip (as.map AV.val)) → All2 (FP Z) us (zipP pls as) := by
  induction h generalizing as with
  | nil => intro us hu; cases hu; exact .nil
  | cons h1 _ ih =>
    intro us hu
    cases as with
    | nil => cases hu; exact .nil
    | cons b bs =>
      simp only [List.map_cons, List.zip_cons_cons] at hu
      cases hu with
      | cons r1 r2 =>
        obtain ⟨T, rfl, hT⟩ := r1
        exact .cons ⟨T, _, _, rfl, hT, h1, rfl, ha _ List.mem_cons_self⟩ (ih (fun v hv => ha v (List.mem_cons_of_mem _ hv)) r2)
theorem AVOk.all_mono {Z Z' : Led} (e : Ext Z Z') {as : List AV} (h : ∀ v ∈ as, AVOk Z v) : ∀ v ∈ as, AVOk Z' v := fun v hv => (h v hv).mono e
theorem AVOk.its {Z : Led} {v : AV} (h : AVOk Z v) : ∀ x ∈ v.its, AVOk Z x := by
  cases h with
  | none => intro x hx; rw [List.mem_singleton.mp hx]; exact .none
  | int => intro x hx; rw [List.mem_singleton.mp hx]; exact .int
  | ar _ _ h => exact h
theorem fitA_len (R : Row) (as : List AV) : R.fr.length + R.ba.length ≤ (fitA R as).length := by
  unfold fitA
  by_cases h : R.re = none
  · simp only [if_pos h, List.length_take, List.length_append, List.length_replicate]; lia
  · simp only [if_neg h, List.length_append, List.length_replicate]; lia
theorem fitA_ok {Z : Led} {R : Row} {as : List AV} (h : ∀ v ∈ as, AVOk Z v) : ∀ v ∈ fitA R as, AVOk Z v := by
  have h1 : ∀ v ∈ as ++ List.replicate (R.fr.length + R.ba.length - as.length) noneA, AVOk Z v := fun v hv => by
    rcases List.mem_append.mp hv with hv | hv
    · exact h v hv
    · rw [(List.mem_replicate.mp hv).2]; exact .none
  unfold fitA
  by_cases hr : R.re = none
  · simp only [if_pos hr]; exact fun v hv => h1 v (List.mem_of_mem_take hv)
  · simp only [if_neg hr]; exact h1
end Mine
namespace Mine
def CutF1 (g : Heap) (L : Addr) (x : Str) (m : Str → Option Value) (J : Value → Led → Prop) (s : Shared) (f : Flow) (s' : Shared) : Prop :=
  f = .next ∧ ∃ h' tk n m' v, s' = { s with heap := h', toks := tk } ∧ Fr g L h' m' ∧ KeepS [x] m m' ∧ m' x = some v ∧ News g L h' n ∧ J v n
theorem CutF1.intro {g : Heap} {L : Addr} {x : Str} {m m' : Str → Option Value} {J : Value → Led → Prop} {s : Shared} {h' : Heap} {tk : Nat} {all : Led} {v : Value} (F : Fr g L h' m') (N : News g L h' all) (hk : KeepS [x] m m') (hx : m' x = some v) (n : Led) (hs : Ext n all) (hJ : J v n) :
    CutF1 g L x m J s .next { s with heap := h', toks := tk } := ⟨rfl, h', tk, n, m', v, rfl, F, hk, hx, nsub N hs, hJ⟩
theorem cutX1 {M : Model} {A : Around} {t : Sem Flow} {Q : Flow → Shared → Prop} {E : Value → Shared → Prop} {s : Shared} {g : Heap} {L : Addr} {m : Str → Option Value} (x : Str) (J : Value → Led → Prop) (_F : Fr g L s.heap m)
    (h : wpAny M A t (CutF1 g L x m J s) E s) (k : ∀ v h' tk n, Fr g L h' (fun y => if y = x then some v else m y) → News g L h' n → J v n → Q .next { s with heap := h', toks := tk }) : wpAny M A t Q E s :=
  wpAny_mono h (fun _ _ ⟨e1, h', tk, n, m', v, e, F', hk, hx, N', hJ⟩ => by
    subst e1 e
    refine k v h' tk n ?_ N' hJ
    have e2 := keepS1_eq hk hx
    have e3 : m' = fun y => if y = x then some v else m y := by
      rw [e2]; funext y
      by_cases h1 : y = x
      · simp [h1]
      · simp only [if_neg h1, List.contains_nil, Bool.false_eq_true, if_false]
    exact e3 ▸ F') fun _ _ e => e
end Mine
namespace Mine
theorem fitA_le (R : Row) (as : List AV) : (fitA R as).length ≤ max as.length (R.fr.length + R.ba.length) := by
  unfold fitA
  by_cases h : R.re = none
  · simp only [if_pos h, List.length_take, List.length_append, List.length_replicate]; exact Nat.le_trans (Nat.min_le_right _ _) (pad_max _ _)
  · simp only [if_neg h, List.length_append, List.length_replicate]; exact pad_max _ _
theorem fitA_none {R : Row} (as : List AV) (h : R.re = none) : fitA R as = (as ++ List.replicate (R.fr.length + R.ba.length - as.length) noneA).take (R.fr.length + R.op.length + R.ba.length) := by
  unfold fitA; simp only [if_pos h]
theorem fitA_some {R : Row} {x : Str} (as : List AV) (h : R.re = some x) : fitA R as = as ++ List.replicate (R.fr.length + R.ba.length - as.length) noneA := by
  unfold fitA; simp only [h, reduceCtorEq, if_false]
end Mine
namespace Mine
section
variable {prog : Program} {w : World} {A : Around} {E : Value → Shared → Prop} {s : Shared} {h₀ : Heap} {L : Addr} {m : Str → Option Value} {news : Led}
theorem min_led {a b : Int} {t u : Tok} {Q : Value → Shared → Prop} (hh : A.handled = none) (F : Fr h₀ L s.heap m) (N : News h₀ L s.heap news)
    (h : ∀ c tk h' tk', c ≤ a → c ≤ b → (c = a ∨ c = b) → Fr h₀ L h' m → News h₀ L h' news → Q (.int c tk) { s with heap := h', toks := tk' }) :
    wpAny (model prog w) A (call (.builtin "min") [.int a t, .int b u]) Q E s :=
  min_two_N hh F N fun h' tk F' N' => by
    by_cases hc : b < a
    · simp only [if_pos hc]; exact h _ _ _ _ (by lia) (by lia) (.inr rfl) F' N'
    · simp only [if_neg hc]; exact h _ _ _ _ (by lia) (by lia) (.inl rfl) F' N'
end
end Mine
namespace Mine
section
variable {prog : Program} {w : World} {A : Around} {E : Value → Shared → Prop} {s : Shared} {h₀ : Heap} {L l : Addr} {m : Str → Option Value} {news : Led}
theorem len_led {vs : List Value} {n : Nat} {Q : Value → Shared → Prop} (N : News h₀ L s.heap news) (hm : (l, PySem.W.listOf vs.toArray n) ∈ news) (hz : vs.length ≤ 100000) (h : Q (.int (vs.length : Nat) (s.toks + 1)) { s with toks := s.toks + 1 + 1 }) :
    wpAny (model prog w) A (call (.builtin "len") [.ref l]) Q E s :=
  len_list (News.isList N hm) (by rw [List.size_toArray]; lia) (by rw [List.size_toArray]; exact h)
end
end Mine
namespace Mine
section
variable {prog : Program} {w : World} {A : Around} {E : Value → Shared → Prop} {s : Shared} {h₀ : Heap} {L l : Addr} {m : Str → Option Value} {news : Led}
theorem item_led {value slice : PySem.Expr} {vs : List Value} {n : Nat} {k : Int} {u : Tok} {Q : Value → Shared → Prop} (N : News h₀ L s.heap news) (hm : (l, PySem.W.listOf vs.toArray n) ∈ news)
    (h0 : 0 ≤ k) (h1 : k < vs.length) (hz : vs.length ≤ 100000) (h : ∀ v, v = vs.getD k.toNat .none → Q v s)
    (hs : subscripted slice false (.ref l) (.int k u) = operate [.ref l, .int k u] (getItem (.ref l) (.int k u)) := by with_unfolding_all rfl) :
    wpAny (model prog w) A (subscriptTail value slice (.ref l) (.int k u)) Q E s := by
  have hk : k.toNat < vs.length := by lia
  have hl := News.isList N hm
  refine tail_any hl.typeIs slot_list_getitem.lookup (wpAny_getItem_list hl h0 (by lia) (x := vs.getD k.toNat .none) ?_ (h _ rfl)) hs
  simp [hk]
end
theorem zipP_one {pls : List Pl} {as : List AV} {p : Pl × DV} (h : p ∈ zipP pls as) : ∃ v, p.2 = .one v := by
  obtain ⟨q, _, rfl⟩ := List.mem_map.mp h
  exact ⟨_, rfl⟩
theorem specA_gp {R : Row} {a : List AV} {x y : Str} {vs : List AV} (h : (Pl.gp x y, DV.many vs) ∈ specA R a) : False := by
  unfold specA at h
  rcases List.mem_append.mp h with h | h
  · rcases List.mem_append.mp h with h | h
    · rcases List.mem_append.mp h with h | h
      · obtain ⟨v, e⟩ := zipP_one h; cases e
      · obtain ⟨v, e⟩ := zipP_one h; cases e
    · obtain ⟨z, _, e⟩ := List.mem_map.mp h; cases e
  · obtain ⟨v, e⟩ := zipP_one h; cases e
theorem g0_val (v : AV) : (v.its.map AV.val ++ [Value.none, Value.none]).getD 0 .none = (g0 v).val := by
  unfold g0
  cases v.its with
  | nil => rfl
  | cons a l => rfl
theorem g1_val (v : AV) : (v.its.map AV.val ++ [Value.none, Value.none]).getD 1 .none = (g1 v).val := by
  unfold g1
  cases v.its with
  | nil => rfl
  | cons a l =>
    cases l with
    | nil => rfl
    | cons b l => rfl
theorem g_mem {v x : AV} (h : x ∈ v.its ++ [noneA, noneA]) {Z : Led} (ok : AVOk Z v) : AVOk Z x := by
  rcases List.mem_append.mp h with h | h
  · exact ok.its x h
  · have : x = noneA := by simpa using h
    rw [this]; exact .none
theorem g0_ok {v : AV} {Z : Led} (ok : AVOk Z v) : AVOk Z (g0 v) := by
  unfold g0
  rw [List.getD_eq_getElem?_getD]
  cases h : (v.its ++ [noneA, noneA])[0]? with
  | none => exact .none
  | some x => exact g_mem (List.mem_of_getElem? h) ok
theorem g1_ok {v : AV} {Z : Led} (ok : AVOk Z v) : AVOk Z (g1 v) := by
  unfold g1
  rw [List.getD_eq_getElem?_getD]
  cases h : (v.its ++ [noneA, noneA])[1]? with
  | none => exact .none
  | some x => exact g_mem (List.mem_of_getElem? h) ok
end Mine
namespace Mine
def StpE : Prop := True
theorem AVOk.its_len {Z : Led} {v : AV} (h : AVOk Z v) : v.its.length ≤ 30 := by
  cases h with
  | none => exact Nat.le_add_left 1 29
  | int => exact Nat.le_add_left 1 29
  | ar h _ _ => exact h
end Mine
namespace Mine
theorem All2.nm {Z : Led} {ps : List Value} {R : Row} {fa : List AV} {i : Nat} {x : Str} {dv : DV} (hps : All2 (NP Z) ps (((specA R fa).take i).flatMap spread)) (hpl : (specA R fa)[i]? = some (Pl.nm x, dv)) (D0 : Addr) (tx : Tok) (wv : Value) (hdv : DVAt Z wv dv) :
    All2 (NP ((D0, tupOf #[Value.str x tx, wv]) :: Z)) (ps ++ [Value.ref D0]) (((specA R fa).take (i + 1)).flatMap spread) := by
  rw [take_snoc hpl, List.flatMap_append]
  have e : [(Pl.nm x, dv)].flatMap spread = [(x, dv)] := rfl
  rw [e]
  exact (hps.mono (NP.mono Ext.refl.cons)).snoc ⟨D0, tx, wv, rfl, List.mem_cons_self, hdv.mono Ext.refl.cons⟩
theorem All2.fin {Z Z' : Led} {ps : List Value} {R : Row} {fa : List AV} (hps : All2 (NP Z) ps ((specA R fa).flatMap spread)) (e : Ext Z Z') : All2 (NP Z') ps (assigns R fa) := by
  unfold assigns; exact hps.mono (NP.mono e)
theorem All2.gp {Z : Led} {ps : List Value} {R : Row} {fa : List AV} {i : Nat} {x y : Str} {v : AV} (hps : All2 (NP Z) ps (((specA R fa).take i).flatMap spread)) (hpl : (specA R fa)[i]? = some (Pl.gp x y, DV.one v)) (D0 D1 : Addr) (tx ty : Tok) (ok : AVOk Z v) :
    All2 (NP ((D1, tupOf #[Value.str y ty, (g1 v).val]) :: (D0, tupOf #[Value.str x tx, (g0 v).val]) :: Z)) (ps ++ [Value.ref D0, Value.ref D1]) (((specA R fa).take (i + 1)).flatMap spread) := by
  rw [take_snoc hpl, List.flatMap_append]
  have e : [(Pl.gp x y, DV.one v)].flatMap spread = [(x, DV.one (g0 v)), (y, DV.one (g1 v))] := rfl
  rw [e]
  refine (hps.mono (NP.mono Ext.refl.cons.cons)).app (.cons ⟨D0, tx, _, rfl, List.mem_cons_of_mem _ List.mem_cons_self, rfl, (g0_ok ok).mono Ext.refl.cons.cons⟩ (.cons ⟨D1, ty, _, rfl, List.mem_cons_self, rfl, (g1_ok ok).mono Ext.refl.cons.cons⟩ .nil))
end Mine
namespace Mine
theorem AVOk.one {Z : Led} {v : AV} (h : AVOk Z v) {P : Prop} (h1 : v = .lf .none → P) (h2 : ∀ k t, v = .lf (.int k t) → P) (h3 : ∀ a its, its.length ≤ 30 → ListAt Z a (its.map AV.val) → (∀ x ∈ its, AVOk Z x) → v = .ar a its → P) : P := by
  cases h with
  | none => exact h1 rfl
  | int => exact h2 _ _ rfl
  | ar a b c => exact h3 _ _ a b c rfl
theorem AVOk.args {Z : Led} {as : List AV} (hok : ∀ v ∈ as, AVOk Z v) {P : Prop} (h1 : as = [.lf .none] → P) (h2 : ∀ k t, as = [.lf (.int k t)] → P) (h3 : ∀ a its, its.length ≤ 30 → ListAt Z a (its.map AV.val) → as = [.ar a its] → P) (h4 : as.length ≠ 1 → P) : P := by
  match as, hok with
  | [], _ => exact h4 (by decide)
  | [v], hok => exact (hok v List.mem_cons_self).one (fun e => h1 (e ▸ rfl)) (fun k t e => h2 k t (e ▸ rfl)) (fun a its x y _ e => h3 a its x y (e ▸ rfl))
  | _ :: _ :: _, _ => exact h4 (fun h => nomatch h)
end Mine
end
section
set_option maxRecDepth 100000
namespace Mine
theorem isStr_of {k : Value} {x : Str} (h : k.isStr x = true) : ∃ t, k = .str x t := by
  cases k with
  | str s t => exact ⟨t, by rw [show s = x from beq_iff_eq.mp h]⟩
  | _ => cases h
theorem isStr_ne {k : Value} {x y : Str} (h : k.isStr x = true) (hn : x ≠ y) : k.isStr y = false := by
  obtain ⟨t, rfl⟩ := isStr_of h
  exact beq_eq_false_iff_ne.mpr hn
theorem isStr_self {x : Str} {t : Tok} : (Value.str x t).isStr x = true := beq_iff_eq.mpr rfl
section
variable {name y : Str} {hsh : Int} {t : Tok} {v : Value}
theorem getL_put : ∀ (es : List DictEntry), getL name (putL name hsh (.str name t) v es) = some (some v)
  | [] => by simp [getL, putL, isStr_self]
  | e :: r => by
    unfold putL
    by_cases h : e.key.isStr name = true
    · rw [if_pos h]; simp [getL, h]
    · rw [if_neg h]
      have ih := getL_put r
      unfold getL at ih ⊢
      rw [List.find?_cons]
      rw [Bool.not_eq_true] at h
      rw [h]
      cases hf : (putL name hsh (.str name t) v r).find? (·.key.isStr name) with
      | some z => rw [hf] at ih; simpa using ih
      | none => rw [hf] at ih; dsimp only at ih; split at ih <;> cases ih
theorem find_put_ne (hn : name ≠ y) : ∀ (es : List DictEntry), ((putL name hsh (.str name t) v es).find? (·.key.isStr y)) = es.find? (·.key.isStr y)
  | [] => by simp [putL, isStr_ne (isStr_self (x := name) (t := t)) hn]
  | e :: r => by
    unfold putL
    by_cases h : e.key.isStr name = true
    · rw [if_pos h]; simp [List.find?_cons, isStr_ne h hn]
    · rw [if_neg h, List.find?_cons, List.find?_cons, find_put_ne hn r]
theorem any_put (hn : name ≠ y) : ∀ (es : List DictEntry), (putL name hsh (.str name t) v es).any (·.refKey) = es.any (·.refKey)
  | [] => rfl
  | e :: r => by
    unfold putL
    by_cases h : e.key.isStr name = true
    · rw [if_pos h]; obtain ⟨t', e'⟩ := isStr_of h
      rw [List.any_cons, List.any_cons]
      congr 1
    · rw [if_neg h, List.any_cons, List.any_cons, any_put hn r]
theorem getL_put_ne (hn : name ≠ y) (es : List DictEntry) : getL y (putL name hsh (.str name t) v es) = getL y es := by
  unfold getL
  rw [find_put_ne hn, any_put hn]
theorem putL_len : ∀ (es : List DictEntry), (putL name hsh (.str name t) v es).length ≤ es.length + 1
  | [] => Nat.le_refl _
  | e :: r => by
    unfold putL
    by_cases h : e.key.isStr name = true
    · rw [if_pos h]; simp
    · rw [if_neg h]; simp only [List.length_cons]; have := putL_len r; lia
theorem putL_len_eq : ∀ (es : List DictEntry) {u : Value}, getL name es = some (some u) → (putL name hsh (.str name t) v es).length = es.length
  | [], _, h => by cases h
  | e :: r, u, hg => by
    unfold putL
    by_cases h : e.key.isStr name = true
    · rw [if_pos h]; simp
    · rw [if_neg h]; simp only [List.length_cons]
      have hg' : getL name r = some (some u) := by
        unfold getL at hg ⊢
        rw [List.find?_cons] at hg
        rw [Bool.not_eq_true] at h
        rw [h] at hg
        cases hf : r.find? (·.key.isStr name) with
        | some z => rw [hf] at hg; exact hg
        | none => rw [hf] at hg; dsimp only at hg; split at hg <;> cases hg
      rw [putL_len_eq r hg']
end
structure WK (es : List DictEntry) (mD nat pre : Addr) (rd : Bool) : Prop where
  num : ∃ k t, getL (Str.ofString "last_number") es = some (some (.int k t))
  made : getL (Str.ofString "made") es = some (some (.ref mD))
  nat : getL (Str.ofString "natives") es = some (some (.ref nat))
  pre : getL (Str.ofString "prelude") es = some (some (.ref pre))
  rdy : getL (Str.ofString "is_ready") es = some (some (.bool rd))
  m1 : getL (Str.ofString "number") es = some none
  m2 : getL (Str.ofString "builtin") es = some none
  m3 : getL (Str.ofString "make_builtin") es = some none
  m4 : getL (Str.ofString "give_own") es = some none
  m5 : getL (Str.ofString "list_of") es = some none
  m6 : getL (Str.ofString "fail") es = some none
  m7 : getL (Str.ofString "error") es = some none
  m8 : getL (Str.ofString "text") es = some none
  len0 : es.length ≤ if rd then 100 else 99
theorem WK.len {es : List DictEntry} {mD nat pre : Addr} {rd : Bool} (W : WK es mD nat pre rd) : es.length ≤ 100 := Nat.le_trans W.len0 (by split <;> lia)
theorem WK.put {es : List DictEntry} {mD nat pre : Addr} {rd : Bool} (W : WK es mD nat pre rd) (hsh : Int) (t : Tok) (k : Int) (u : Tok) : WK (putL (Str.ofString "last_number") hsh (.str (Str.ofString "last_number") t) (.int k u) es) mD nat pre rd := by
  obtain ⟨⟨k0, t0, h0⟩, h1, h2, h3, h4, h5, h6, h7, h8, h9, h10, h11, h12, h13⟩ := W
  refine ⟨⟨k, u, getL_put es⟩, ?_, ?_, ?_, ?_, ?_, ?_, ?_, ?_, ?_, ?_, ?_, ?_, ?_⟩
  case refine_13 => rw [putL_len_eq es h0]; exact h13
  all_goals (rw [getL_put_ne (by decide)]; assumption)
def bNames : List Str := [Str.ofString "BasicObject", Str.ofString "Object", Str.ofString "Module", Str.ofString "Class", Str.ofString "Kernel", Str.ofString "Comparable", Str.ofString "Enumerable", Str.ofString "NilClass", Str.ofString "TrueClass", Str.ofString "FalseClass", Str.ofString "Numeric", Str.ofString "Integer", Str.ofString "String", Str.ofString "Symbol", Str.ofString "Array", Str.ofString "Hash", Str.ofString "Range", Str.ofString "Proc", Str.ofString "Fiber", Str.ofString "Exception", Str.ofString "ScriptError", Str.ofString "NotImplementedError", Str.ofString "SystemStackError", Str.ofString "StandardError", Str.ofString "ArgumentError", Str.ofString "UncaughtThrowError", Str.ofString "FiberError", Str.ofString "IndexError", Str.ofString "KeyError", Str.ofString "StopIteration", Str.ofString "LocalJumpError", Str.ofString "NameError", Str.ofString "NoMethodError", Str.ofString "NoMatchingPatternError", Str.ofString "NoMatchingPatternKeyError", Str.ofString "RangeError", Str.ofString "RuntimeError", Str.ofString "FrozenError", Str.ofString "TypeError", Str.ofString "ZeroDivisionError"]
def miss (kvs : List (Str × Value)) : Nat := (bNames.filter fun n => (valueAt kvs n).isNone).length
theorem valueAt_snoc {kvs : List (Str × Value)} {k n : Str} {v : Value} (h : valueAt kvs k = none) : valueAt (kvs ++ [(k, v)]) n = if n = k then some v else valueAt kvs n := by
  unfold valueAt at h ⊢
  rw [List.find?_append]
  by_cases hn : n = k
  · subst hn
    rw [if_pos rfl]
    rw [Option.map_eq_none_iff] at h
    rw [h]
    simp
  · rw [if_neg hn]
    cases hf : kvs.find? (fun kv => kv.1 = n) with
    | some z => simp
    | none =>
      have : ¬ k = n := fun e => hn e.symm
      simp [this]
theorem filter_lt {α : Type} (p q : α → Bool) (himp : ∀ x, q x = true → p x = true) : ∀ (l : List α) {x : α}, x ∈ l → p x = true → q x = false → (l.filter q).length < (l.filter p).length
  | [], _, h, _, _ => nomatch h
  | y :: l, x, h, hp, hq => by
    have le : ∀ l : List α, (l.filter q).length ≤ (l.filter p).length := by
      intro l
      induction l with
      | nil => exact Nat.le_refl _
      | cons z l ih =>
        rw [List.filter_cons, List.filter_cons]
        by_cases hz : q z = true
        · rw [if_pos hz, if_pos (himp z hz)]; simp only [List.length_cons]; lia
        · rw [if_neg hz]; split <;> (try simp only [List.length_cons]) <;> lia
    rw [List.filter_cons, List.filter_cons]
    rcases List.mem_cons.mp h with rfl | h
    · rw [if_pos hp, if_neg (by rw [hq]; exact Bool.false_ne_true)]
      have := le l
      simp only [List.length_cons]; lia
    · have ih := filter_lt p q himp l h hp hq
      by_cases hz : q y = true
      · rw [if_pos hz, if_pos (himp y hz)]; simp only [List.length_cons]; lia
      · rw [if_neg hz]; split <;> (try simp only [List.length_cons]) <;> lia
structure MK (kvs : List (Str × Value)) : Prop where
  refs : ∀ n v, valueAt kvs n = some v → ∃ x, v = .ref x
  cnt : kvs.length + miss kvs ≤ 41
  lens : ∀ k ∈ kvs.map (·.1), k.length ≤ 100
theorem bNames_len : ∀ n ∈ bNames, n.length ≤ 100 := by decide +kernel
theorem miss_snoc {kvs : List (Str × Value)} {k : Str} {v : Value} (h : valueAt kvs k = none) (hk : k ∈ bNames) : miss (kvs ++ [(k, v)]) < miss kvs := by
  unfold miss
  refine filter_lt _ _ (fun n hn => ?_) bNames hk (by rw [h]; rfl) (by rw [valueAt_snoc h, if_pos rfl]; rfl)
  rw [valueAt_snoc h] at hn
  by_cases e : n = k
  · rw [if_pos e] at hn; cases hn
  · rw [if_neg e] at hn; exact hn
theorem MK.add {kvs : List (Str × Value)} (M : MK kvs) {k : Str} {x : Addr} (h : valueAt kvs k = none) (hk : k ∈ bNames) : MK (stored kvs k (.ref x)) ∧ miss (stored kvs k (.ref x)) < miss kvs := by
  rw [PyProof.Rows.stored_absent h]
  have hm := miss_snoc (v := .ref x) h hk
  refine ⟨⟨fun n v hv => ?_, ?_, fun n hn => ?_⟩, hm⟩
  · rw [valueAt_snoc h] at hv
    by_cases e : n = k
    · rw [if_pos e] at hv; exact ⟨x, (Option.some.inj hv).symm⟩
    · rw [if_neg e] at hv; exact M.refs n v hv
  · have := M.cnt
    simp only [List.length_append, List.length_cons, List.length_nil]; lia
  · rw [List.map_append] at hn
    rcases List.mem_append.mp hn with hn | hn
    · exact M.lens n hn
    · simp only [List.map_cons, List.map_nil, List.mem_singleton] at hn
      rw [hn]; exact bNames_len k hk
theorem MK.nil : MK [] where
  refs n v h := by cases h
  cnt := by decide +kernel
  lens n h := by cases h
end Mine
end
section
set_option maxRecDepth 100000
namespace Mine
def setd (acc : List (Str × DV)) (p : Str × DV) : List (Str × DV) := if acc.any (fun q => decide (q.1 = p.1)) then acc else acc ++ [p]
def fs (l : List (Str × DV)) (S : List (Pl × DV)) : List (Str × DV) := (S.flatMap spread).foldl setd l
theorem fs_app (l : List (Str × DV)) (S T : List (Pl × DV)) : fs l (S ++ T) = fs (fs l S) T := by
  unfold fs; rw [List.flatMap_append, List.foldl_append]
theorem fs_snoc {S : List (Pl × DV)} {i : Nat} {p : Pl × DV} (l : List (Str × DV)) (h : S[i]? = some p) : fs l (S.take (i + 1)) = fs (fs l (S.take i)) [p] := by
  rw [take_snoc h, fs_app]
theorem fs_nil (l : List (Str × DV)) : fs l [] = l := rfl
theorem fs_nm (l : List (Str × DV)) (x : Str) (d : DV) : fs l [(.nm x, d)] = setd l (x, d) := rfl
theorem setd_len (l : List (Str × DV)) (p : Str × DV) : (setd l p).length ≤ l.length + 1 := by
  unfold setd; split <;> simp
theorem folds_len : ∀ (S : List (Str × DV)) (l : List (Str × DV)), (S.foldl setd l).length ≤ l.length + S.length
  | [], l => Nat.le_refl _
  | p :: S, l => by
    rw [List.foldl_cons]
    have h1 := folds_len S (setd l p)
    have h2 := setd_len l p
    simp only [List.length_cons]; lia
theorem spread_len : ∀ p : Pl × DV, (spread p).length ≤ 2
  | (.nm _, _) => by simp [spread]
  | (.gp _ _, .one _) => by simp [spread]
  | (.gp _ _, .many _) => by simp [spread]
theorem spreads_len : ∀ S : List (Pl × DV), (S.flatMap spread).length ≤ 2 * S.length
  | [] => Nat.le_refl _
  | p :: S => by
    rw [List.flatMap_cons, List.length_append]
    have h1 := spreads_len S
    have h2 := spread_len p
    simp only [List.length_cons]; lia
theorem fs_len (l : List (Str × DV)) (S : List (Pl × DV)) : (fs l S).length ≤ l.length + 2 * S.length := by
  unfold fs
  have h1 := folds_len (S.flatMap spread) l
  have h2 := spreads_len S
  lia
structure VP (Z : Led) (kv : Str × Value) (p : Str × DV) : Prop where
  k : kv.1 = p.1
  v : FVAt Z kv.2 p.2
theorem VP.mono {Z Z' : Led} (e : Ext Z Z') : ∀ a b, VP Z a b → VP Z' a b := fun _ _ h => ⟨h.1, h.2.mono e⟩
inductive VD (w : World) (Z : Led) (o : Obj) (l : List (Str × DV)) : Prop
  | mk (kvs : List (Str × Value)) (d : o.IsDictOf (PySem.strKind PG w) kvs) (a : All2 (VP Z) kvs l)
theorem VD.mono {w : World} {Z Z' : Led} {o : Obj} {l : List (Str × DV)} (e : Ext Z Z') (h : VD w Z o l) : VD w Z' o l :=
  let ⟨k, a, b⟩ := h; ⟨k, a, b.mono (VP.mono e)⟩
theorem all2_any {Z : Led} {x : Str} : ∀ {kvs : List (Str × Value)} {l : List (Str × DV)}, All2 (VP Z) kvs l → l.any (fun q => decide (q.1 = x)) = kvs.any (fun q => decide (q.1 = x))
  | _, _, .nil => rfl
  | _, _, .cons h r => by rw [List.any_cons, List.any_cons, all2_any r, h.1]
theorem valueAt_none_any {kvs : List (Str × Value)} {x : Str} : (valueAt kvs x).isSome = kvs.any (fun q => decide (q.1 = x)) := by
  unfold valueAt
  rw [Option.isSome_map]
  induction kvs with
  | nil => rfl
  | cons q r ih =>
    rw [List.find?_cons, List.any_cons]
    by_cases h : q.1 = x
    · simp [h]
    · simp only [h, decide_false, Bool.false_or]; exact ih
theorem VD.there {Z : Led} {l : List (Str × DV)} {kvs : List (Str × Value)} {x : Str} {d : DV} (h : All2 (VP Z) kvs l) (hs : (valueAt kvs x).isSome = true) : setd l (x, d) = l := by
  unfold setd
  rw [all2_any h, ← valueAt_none_any, hs]; rfl
theorem VD.new {Z : Led} {l : List (Str × DV)} {kvs : List (Str × Value)} {x : Str} {d : DV} (h : All2 (VP Z) kvs l) (hs : valueAt kvs x = none) : setd l (x, d) = l ++ [(x, d)] := by
  unfold setd
  rw [all2_any h, ← valueAt_none_any, hs]; rfl
section
variable {w : World} {A : Around} {E : Value → Shared → Prop} {s : Shared} {h₀ : Heap} {L d : Addr} {m : Str → Option Value} {news : Led} {g : Obj → Led} {o : Obj}
theorem vd_setdefault {x : Str} {t : Tok} {v : Value} {dv : DV} {l : List (Str × DV)} {Z : Led} {Q : Value → Shared → Prop} (F : Fr h₀ L s.heap m) (N : News h₀ L s.heap news) (U : UpdF d o news g) (hd : VD w Z o l) (lo : (d == sysModules) = false) (hv : FVAt Z v dv) (hz : l.length ≤ 1000)
    (h : ∀ r h' o' tk, VD w Z o' (fs l [(.nm x, dv)]) → Fr h₀ L h' m → News h₀ L h' (g o') → Q r { s with heap := h', toks := tk }) :
    wpAny (model PG w) A (call (.builtin "dict.setdefault") [.ref d, .str x t, v]) Q E s := by
  obtain ⟨kvs, hk, ha⟩ := hd
  obtain ⟨pre, post, rfl, hg, a, b⟩ := U.split
  have hm := N (d, o) (List.mem_append_right _ (.head _))
  have hD : s.heap.DictOf (PySem.strKind PG w) d kvs := Heap.dictOf_iff.mpr ⟨o, hm.1, hk⟩
  refine call_meetsIn PySem.F.slot_dict_setdefault hD.typeIs PySem.F.entry_dict_setdefault (PySem.F.args_dict_setdefault_3 _ _ _) (kt_meets_setdefault (PySem.strKind PG w) d (strKind_is PG w x t) lo v)
    ⟨kvs, hD, by rw [ha.len, sizeLine_eq]; lia, fun u hu => ?_, fun hn h' hm' hs' => ?_⟩
  · have e : (valueAt kvs x).isSome = true := by rw [hu]; rfl
    exact h u s.heap o _ (by rw [fs_nm, VD.there ha e]; exact ⟨kvs, hk, ha⟩) F (hg o ▸ N)
  · obtain ⟨o', ho', hd'⟩ := Heap.dictOf_iff.mp hm'
    rw [PyProof.Rows.stored_absent hn] at hd'
    exact h v h' o' _ (by rw [fs_nm, VD.new ha hn]; exact ⟨_, hd', ha.snoc ⟨rfl, hv⟩⟩) (F.change hs' hm.2.1 hm.2.2) (hg o' ▸ N.setIn a b hs' ho')
end
theorem vd_method {w : World} {A : Around} {E : Value → Shared → Prop} {s : Shared} {h₀ : Heap} {L d : Addr} {news : Led} {o : Obj} {l : List (Str × DV)} {Z : Led} {pl : Sem Bool} {Q : Value × List Value → Shared → Prop} (N : News h₀ L s.heap news) (hp : (d, o) ∈ news) (hd : VD w Z o l) (h : Q (.builtin "dict.setdefault", [.ref d]) s) : wpAny (model PG w) A (getMethod (.ref d) "setdefault" pl) Q E s := by
  obtain ⟨kvs, hk, _⟩ := hd
  have hD := kda_dict N hp hk
  exact getMethod_builtin hD.typeIs PySem.F.plainAttrs_dict PySem.F.slot_dict_setdefault PySem.F.type_dict_setdefault hD.mapOf.noDict h
section
variable {R : Row} {as : List AV} {a b c : Nat}
theorem fit_pad (hre : R.re = none ∨ ∃ x, R.re = some x) (ha : a = R.fr.length) (hb : b = R.ba.length) (h : 0 < (a : Int) + (b : Int) - ((as.map AV.val).length : Int)) :
    as.map AV.val ++ List.replicate ((a : Int) + (b : Int) - ((as.map AV.val).length : Int)).toNat Value.none = (fitA R as).map AV.val := by
  have e : ((a : Int) + (b : Int) - ((as.map AV.val).length : Int)).toNat = R.fr.length + R.ba.length - as.length := by
    rw [List.length_map, ha, hb]; exact ti_add_sub _ _ _
  rw [e]
  rw [List.length_map, ha, hb] at h
  have e2 : (as ++ List.replicate (R.fr.length + R.ba.length - as.length) noneA).map AV.val = as.map AV.val ++ List.replicate (R.fr.length + R.ba.length - as.length) Value.none := by
    rw [List.map_append, List.map_replicate]
    rfl
  rcases hre with hre | ⟨x, hre⟩
  · rw [fitA_none as hre, List.take_of_length_le (by simp only [List.length_append, List.length_replicate]; exact pad_le _ (pos_le h)), e2]
  · rw [fitA_some as hre, e2]
theorem fit_cut (hre : R.re = none) (ha : a = R.fr.length) (hb : b = R.ba.length) (hc : c = R.op.length) (h : ¬ 0 < (a : Int) + (b : Int) - ((as.map AV.val).length : Int)) :
    (as.map AV.val).take ((a : Int) + (b : Int) + (c : Int)).toNat = (fitA R as).map AV.val := by
  rw [List.length_map, ha, hb] at h
  have e : R.fr.length + R.ba.length - as.length = 0 := Nat.sub_eq_zero_of_le (neg_le h)
  rw [fitA_none as hre, e, List.replicate_zero, List.append_nil, List.map_take]
  congr 1
  lia
theorem fit_same {x : Str} (hre : R.re = some x) (ha : a = R.fr.length) (hb : b = R.ba.length) (h : ¬ 0 < (a : Int) + (b : Int) - ((as.map AV.val).length : Int)) : as.map AV.val = (fitA R as).map AV.val := by
  rw [List.length_map, ha, hb] at h
  have e : R.fr.length + R.ba.length - as.length = 0 := Nat.sub_eq_zero_of_le (neg_le h)
  rw [fitA_some as hre, e, List.replicate_zero, List.append_nil]
end
/-- the row that a group (x, y) is -/
def gRow (x y : Str) : Row := { fr := [.nm x, .nm y], op := [], re := none, ba := [], bl := none }
theorem gRow_spread (x y : Str) (v : AV) (l : List (Str × DV)) : fs l (specA (gRow x y) (fitA (gRow x y) v.its)) = fs l [(.gp x y, .one v)] := by
  have e : ∀ its : List AV, specA (gRow x y) (fitA (gRow x y) its) = [(.nm x, .one ((its ++ [noneA, noneA]).getD 0 noneA)), (.nm y, .one ((its ++ [noneA, noneA]).getD 1 noneA))] := by
    intro its
    cases its with
    | nil => rfl
    | cons a r =>
      cases r with
      | nil => rfl
      | cons b r =>
        have h1 : fitA (gRow x y) (a :: b :: r) = [a, b] := by
          unfold fitA gRow
          simp
        rw [h1]
        rfl
  rw [e]; rfl
end Mine
end
section
set_option maxRecDepth 100000
namespace Mine
def WZ1 (h₀ : Heap) (L : Addr) (x : Str) (st : List Str) (m₀ : Str → Option Value) (s : Shared) (J : Nat → Value → Led → Prop) (n : Nat) (Q : Flow → Shared → Prop) (f : Flow) (s₂ : Shared) : Prop :=
  match f with
  | .ret v => Q (.ret v) s₂
  | .brk => Q .next s₂
  | _ => ∃ h' tk m' news' n' v', s₂ = { s with heap := h', toks := tk } ∧ Fr h₀ L h' m' ∧ News h₀ L h' news' ∧ n' < n ∧ KeepS (x :: st) m₀ m' ∧ m' x = some v' ∧ J n' v' news'
theorem WZ1.intro {h₀ : Heap} {L : Addr} {x : Str} {st : List Str} {m₀ m' : Str → Option Value} {s : Shared} {J : Nat → Value → Led → Prop} {n : Nat} {Q : Flow → Shared → Prop} {h' : Heap} {tk : Nat} {all : Led} {v' : Value} (F : Fr h₀ L h' m') (N : News h₀ L h' all) (hk : KeepS (x :: st) m₀ m') (hx : m' x = some v') (n' : Nat) (hn : n' < n) (news' : Led) (hs : Ext news' all) (hJ : J n' v' news') :
    WZ1 h₀ L x st m₀ s J n Q .next { s with heap := h', toks := tk } := ⟨h', tk, m', news', n', v', rfl, F, nsub N hs, hn, hk, hx, hJ⟩
section
variable {prog : Program} {w : World} {A : Around} {E : Value → Shared → Prop} {s : Shared} {env : Env} {h₀ : Heap} {L : Addr} {body : List Stmt} {Q : Flow → Shared → Prop}
theorem whileZ1 {test : PySem.Expr} {pos : Pos} {m₀ : Str → Option Value} {news : Led} {v₀ : Value} {n₀ : Nat} (x : Str) (st : List Str) (J : Nat → Value → Led → Prop)
    (F : Fr h₀ L s.heap m₀) (N : News h₀ L s.heap news) (hx : m₀ x = some v₀) (J0 : J n₀ v₀ news)
    (turn : ∀ n v (u : Str → Option Value) news₁ h tk, J n v news₁ → Fr h₀ L h (fun y => if y = x then some v else if st.contains y then u y else m₀ y) → News h₀ L h news₁ →
      wpAny (model prog w) A (isTrue test env (eval test env)) (fun b s₂ => if b = true then wpAny (model prog w) A (execs body env) (WZ1 h₀ L x st m₀ s J n Q) E s₂ else Q .next s₂) E { s with heap := h, toks := tk })
    (hE : PassesOwn (model prog w) A env E := by passes_own) : wpAny (model prog w) A (exec (.While test body [] pos) env) Q E s := by
  refine While_inv2 (fun n m nx => KeepS (x :: st) m₀ m ∧ ∃ v, m x = some v ∧ J n v nx) F N ⟨fun _ _ => rfl, v₀, hx, J0⟩ ?_ hE
  rintro n m₁ nx h tk F₁ N₁ ⟨hm, v, hv, hJ⟩
  rw [keepS1_eq hm hv] at F₁
  refine wpAny_mono (turn n v m₁ nx h tk hJ F₁ N₁) (fun b s₂ p => ?_) fun _ _ x => x
  cases b with
  | false => simpa using p
  | true =>
    simp only [if_true] at p ⊢
    refine wpAny_mono p (fun f s₃ q => ?_) fun _ _ x => x
    cases f with
    | ret v => exact q
    | brk => exact q
    | next =>
      obtain ⟨h', tk', m', news', n', v', rfl, F', N', hn, hk, hx', hJ'⟩ := q
      exact ⟨h', tk', m', news', n', rfl, F', N', hn, hk, v', hx', hJ'⟩
    | cont =>
      obtain ⟨h', tk', m', news', n', v', rfl, F', N', hn, hk, hx', hJ'⟩ := q
      exact ⟨h', tk', m', news', n', rfl, F', N', hn, hk, v', hx', hJ'⟩
end
end Mine
namespace Mine
theorem ints_get : ∀ {vs : List Value} {ns : List Int} {i : Nat} {v : Value}, IntsAre vs ns → vs[i]? = some v → ∃ n t, ns[i]? = some n ∧ v = .int n t := by
  intro vs ns i v h
  induction h generalizing i with
  | nil => intro e; cases e
  | cons n t _ ih =>
    intro e
    cases i with
    | zero => cases e; exact ⟨n, t, rfl, rfl⟩
    | succ i => exact ih (by simpa using e)
theorem ints_snoc {vs : List Value} {ns : List Int} (h : IntsAre vs ns) (n : Int) (t : Tok) : IntsAre (vs ++ [.int n t]) (ns ++ [n]) := by
  induction h with
  | nil => exact .cons n t .nil
  | cons m u _ ih => exact .cons m u ih
theorem nonneg_snoc {ds : List Int} (h : ∀ d ∈ ds, 0 ≤ d) {n : Int} (hn : 0 ≤ n) : ∀ d ∈ ds ++ [n], 0 ≤ d := fun d hd => by
  rcases List.mem_append.mp hd with hd | hd
  · exact h d hd
  · rw [List.mem_singleton.mp hd]; exact hn
theorem sum_nonneg : ∀ {ds : List Int}, (∀ d ∈ ds, 0 ≤ d) → 0 ≤ ds.sum
  | [], _ => Int.le_refl _
  | d :: ds, h => by
    rw [List.sum_cons]
    exact Int.add_nonneg (h d List.mem_cons_self) (sum_nonneg fun x hx => h x (List.mem_cons_of_mem _ hx))
end Mine
end
section
set_option maxRecDepth 100000
open PySem.SeqAt
namespace Mine
theorem not_lt_step {a b c : List Nat} (h1 : a < b) (h2 : ¬ c < b) : a < c := by
  by_cases h : a < c
  · exact h
  · exact absurd (List.lt_of_le_of_lt (List.not_lt.mp h) h1) h2
theorem risingS_pw : ∀ (l : List Str) (p : Str), risingS p l = true → (p :: l).Pairwise (fun a b => ¬ b.cps.toList < a.cps.toList)
  | [], p, _ => by simp
  | x :: r, p, h => by
    simp only [risingS, Bool.and_eq_true, Bool.not_eq_true', ltCps_eq, decide_eq_false_iff_not] at h
    have ih := risingS_pw r x h.2
    refine List.pairwise_cons.mpr ⟨fun y hy => ?_, ih⟩
    rcases List.mem_cons.mp hy with rfl | hm
    · exact h.1
    · exact fun q => (List.pairwise_cons.mp ih).1 y hm (not_lt_step q h.1)
theorem sortedS_pw : ∀ (l : List Str), sortedS l = true → l.Pairwise (fun a b => ¬ b.cps.toList < a.cps.toList)
  | [], _ => .nil
  | x :: r, h => risingS_pw r x h
theorem sortedS_eq {a b : List Str} (h : a.Perm b) (ha : sortedS a = true) (hb : sortedS b = true) : a = b :=
  h.eq_of_pairwise (le := fun a b => ¬ b.cps.toList < a.cps.toList) (fun x y _ _ h1 h2 => by
    have e := List.le_antisymm (List.not_lt.mp h1) (List.not_lt.mp h2)
    cases x; cases y; congr; exact Array.toList_inj.mp e) (sortedS_pw a ha) (sortedS_pw b hb)
section
variable {prog : Program} {w : World} {A : Around} {E : Value → Shared → Prop} {s : Shared} {h₀ : Heap} {L d : Addr} {m : Str → Option Value} {news : List (Addr × Obj)} {o : Obj} {kvs : List (Str × Value)}
theorem strs_of_dict {n : Nat} : ∀ {kvs : List (Str × Value)} {vs : List Value}, vs.length = kvs.length → (∀ (j : Nat) (v : Value), vs[j]? = some v → ∃ k x, kvs[j]? = some (k, x) ∧ (PySem.strKind prog w).is k v = true) → StrsAre vs (kvs.map (·.1))
  | [], [], _, _ => .nil
  | [], _ :: _, h, _ => by simp at h
  | _ :: _, [], h, _ => by simp at h
  | (k, x) :: r, v :: vs, h, hv => by
    obtain ⟨k', x', e, hk⟩ := hv 0 v rfl
    cases e
    obtain ⟨t, rfl⟩ := Value.isStrOf_shape hk
    exact .cons k t (strs_of_dict (n := n) (by simpa using h) fun j v e => hv (j + 1) v e)
theorem sort_strs {D : Addr} {vs : List Value} {ss : List Str} {n : Nat} {Q : Value → Shared → Prop} (F : Fr h₀ L s.heap m) (N : News h₀ L s.heap ((D, listOf vs.toArray n) :: news)) (hn : ∀ q ∈ news, q.1 < D) (hS : StrsAre vs ss) (h64 : vs.length < 64)
    (h : ∀ h' vs' ss' e, Fr h₀ L h' m → News h₀ L h' ((D, listOf (vs' : List Value).toArray e) :: news) → StrsAre vs' ss' → ss'.Perm ss → sortedS ss' = true → Q .none { s with heap := h' }) :
    wpAny (model prog w) A (call (.builtin "list.sort") [.ref D]) Q E s := by
  have nz := N _ List.mem_cons_self
  have ho : s.heap.get? D = some (seqObj "list" vs.toArray n) := nz.1
  refine wpAny_call_entry slot_list_sort ⟨_, ho, rfl⟩ entry_list_sort (list_sort_treeK strKind_oneLt ho hS.keysOf (fun v₁ v₂ rest e => keyKind_strs (by rw [← e]; exact hS)) h64 fun st' hp hs => ?_) (args_list_sort _)
  obtain ⟨ss', h1, h2, h3⟩ := sorted_out_str hS hp hs
  refine ⟨_, rfl, ?_⟩
  have ha : D < s.heap.objs.size := Heap.lt_size ho
  obtain ⟨e, he⟩ := sortedHeap_at (out := (arrOf st').map (·.2)) ho
  have old : ∀ b o, b ≠ D → s.heap.get? b = some o → (sortedHeap s.heap D vs ((arrOf st').map (·.2))).get? b = some o := fun b o hb e => by
    rw [sortedHeap_old hb (Heap.lt_size e)]; exact e
  refine h _ ((arrOf st').map (·.2)).toList ss' e ⟨?_, fun b x e => old b x (fun q => by rw [q, nz.2.2] at e; cases e) (F.keep b x e), F.above⟩ (fun p hp => ?_) h1 h2 h3
  · obtain ⟨oL, a1, a2, hL, a3⟩ := F.ns
    exact ⟨oL, a1, a2, old _ _ (fun q => nz.2.1 q.symm) hL, a3⟩
  · rcases List.mem_cons.mp hp with rfl | hp
    · refine ⟨?_, nz.2⟩
      rw [Array.toArray_toList]
      exact he
    · have := N p (List.mem_cons_of_mem _ hp)
      exact ⟨old _ _ (Nat.ne_of_lt (hn p hp)) this.1, this.2⟩
theorem sorted_dict {Q : Value → Shared → Prop} (hh : A.handled = none) (F : Fr h₀ L s.heap m) (N : News h₀ L s.heap news) (hp : (d, o) ∈ news) (hd : o.IsDictOf (PySem.strKind prog w) kvs) (lo : (d == sysModules) = false) (hn : kvs.length < 64)
    (h : ∀ B h' tk vs ss e, Fr h₀ L h' m → News h₀ L h' ((B, listOf (vs : List Value).toArray e) :: news) → (∀ q ∈ news, q.1 < B) → StrsAre vs ss → ss.Perm (kvs.map (·.1)) → sortedS ss = true → Q (.ref B) { s with heap := h', toks := tk }) :
    wpAny (model prog w) A (call (.builtin "sorted") [.ref d]) Q E s := by
  obtain ⟨ep, hat⟩ := (kda_dict N hp hd).dictAt
  refine kdu_sorted (kdl_dict (knd := PySem.strKind prog w) (kvs := kvs) (ep := ep) lo) hh F N hat (kdl_size (by lia)) fun D h' tk vs F' N' l1 hl hv => ?_
  refine sort_strs F' N' l1 (strs_of_dict (n := 0) hl hv) (by lia) fun h2 vs' ss' e F2 N2 a1 a2 a3 => ?_
  exact h D h2 tk vs' ss' e F2 N2 l1 a1 a2 a3
theorem strs_key {xs ys : List Value} {ss : List Str} (hx : StrsAre xs ss) (hy : StrsAre ys ss) : ∀ j (h1 : j < xs.length) (h2 : j < ys.length), ∃ x t u, xs[j] = .str x t ∧ ys[j] = .str x u := by
  induction hx generalizing ys with
  | nil => intro j h1; simp at h1
  | cons x t _ ih =>
    cases hy with
    | cons _ u hy' =>
      intro j h1 h2
      cases j with
      | zero => exact ⟨x, t, u, rfl, rfl⟩
      | succ j => exact ih hy' j _ _
theorem eq_strs {a b : Addr} {xs ys : List Value} {ss : List Str} {ka kb : Nat} {Q : Value → Shared → Prop} (N : News h₀ L s.heap news) (ma : (a, listOf xs.toArray ka) ∈ news) (mb : (b, listOf ys.toArray kb) ∈ news) (hx : StrsAre xs ss) (hy : StrsAre ys ss) (hu : A.units < cLine) (h : Q (.bool true) s) :
    wpAny (model prog w) A (compareOp .Eq (.ref a) (.ref b)) Q E s := by
  have hl : xs.length = ys.length := hx.len_eq.trans hy.len_eq.symm
  refine eq_listAt (e := fun _ => true) ⟨_, (N _ ma).1, rfl, ka, rfl⟩ ⟨_, (N _ mb).1, rfl, kb, rfl⟩ (by simpa using hl) hu (fun j h1 h2 => ?_) ?_
  · obtain ⟨x, t, u, e1, e2⟩ := strs_key hx hy j (by simpa using h1) (by simpa using h2)
    simp only [List.getElem_toArray, e1, e2]
    have := EqAt.str_str (A := A.in1) (s := s) x t x u
    rwa [beq_self_eq_true] at this
  · rw [show (List.range xs.toArray.size).all (fun _ => true) = true from by simp]
    exact h
end
end Mine
namespace Mine
open LCg LCt
section
variable {prog : Program} {w : World} {A : Around} {E : Value → Shared → Prop} {s : Shared} {h₀ : Heap} {L : Addr} {m : Str → Option Value} {env : Env} {K : Type} [DecidableEq K] {knd : PySem.KeyKind prog w K}
def CompSrcD (knd : PySem.KeyKind prog w K) (A : Around) (h₀ : Heap) (L : Addr) (m : Str → Option Value) (env : Env) (ct elt : PySem.Expr) (x : Str) (scope : Scope) (cl : List (Str × Addr)) (Fin : Shared → List Value → List (Addr × Obj) → Prop) (xv : Value) (s₁ : Shared) : Prop :=
  ∃ d o kvs news, xv = .ref d ∧ A.handled = none ∧ Fr h₀ L s₁.heap m ∧ News h₀ L s₁.heap news ∧ (d, o) ∈ news ∧ o.IsDictOf knd kvs ∧ (d == sysModules) = false ∧ kvs.length ≤ sizeLine ∧
    ∀ s₂ : Shared, (∃ h, s₂ = { s₁ with heap := h }) → CompRestT prog w A h₀ L m env ct elt x scope cl s₂ (fun nw => (d, o) ∈ nw) (fun i v => ∃ k y, kvs[i]? = some (k, y) ∧ knd.is k v = true) (Fin s₂) kvs.length 0 [] news
theorem ListComp_D {ct elt iter : PySem.Expr} {x : Str} {px : Pos} {scope : Scope} {cl : List (Str × Addr)} {pos : Pos} {Q : Value → Shared → Prop} (F₀ : Fr h₀ L s.heap m)
    (hclos : closureFor scope env = pure cl) (hcell : ∀ y ∈ scope.names, y.2 ≠ .cell) (hkind : scope.kind = .function)
    (hnames : ∀ y ∈ scope.names, y.2 = .local → scope.names.lookup y.1 = some .local) (hx : scope.names.lookup x = some .local)
    (h : wpAny (model prog w) A (eval iter env) (CompSrcD knd A h₀ L m env ct elt x scope cl (fun s₂ => FinE h₀ L m s₂ Q)) E s)
    (hs : ∀ x, foldedSetIterable iter env x = pure x := by intro _; rfl) :
    wpAny (model prog w) A (eval (.ListComp elt [⟨.Name x px, iter, [ct], 0⟩] scope pos) env) Q E s := by
  rw [eval_ListComp]
  refine wpAny_comprehension_free (use := none) rfl hs hclos hkind hnames (wpAny_mono h (fun xv s₁ h₁ => ?_) fun _ _ e => e)
  obtain ⟨d, o, kvs, news, rfl, hh, F, N, hm, hod, lo, hsz, R⟩ := h₁
  obtain ⟨ep, hat⟩ := KdkAt.of hod
  have hd := hat.dictAt (N _ hm).1
  have hlt : d < s₁.heap.objs.size := hd.lt_size
  refine wpAny_pyIter_dict lo hd ?_
  refine block_T (Walks.dictKeys hh s₁.heap.objs.size d (Nat.ne_of_lt hlt) kvs ep) hsz (fun i h st => by obtain ⟨o, e, _⟩ := st.1; exact ⟨o, e⟩)
    (fun i h h' o nw st e e' _ N S => ⟨by obtain ⟨o', q, r⟩ := st.1; rw [e] at q; cases q; exact ⟨o, e', r⟩, hat.dictAt (N _ S).1⟩) hcell hkind hx ⟨⟨_, Heap.get?_push_size _ rfl, rfl, rfl⟩, hd.push _⟩ (fun b hb => ?_)
    (F.push _) (N.grown fun b o e => Heap.get?_push_of_some _ e) (Nat.ne_of_lt F.ns.lt) (next_is_new F) (fun p hp => Nat.ne_of_lt (Heap.lt_size (N p hp).1)) hm (R _ ⟨_, rfl⟩) ?_
  · show b < (s₁.heap.push _).objs.size
    rw [Heap.size_push]
    rcases List.mem_cons.mp hb with rfl | hb
    · exact Nat.lt_succ_self _
    · rw [List.mem_singleton.mp hb]; exact Nat.lt_succ_of_lt hlt
  · intro D C h tk m' ys news' F' N' o1 hn hC₀ hD₀ hCL hDL hCD offC fin
    refine ⟨m', hn, fun h'' hs'' => fin D h'' tk (F'.change hs'' hCL hC₀) (fun p hp => ?_) o1⟩
    refine ⟨hs''.extBut _ _ ?_ (N' p hp).1, (N' p hp).2⟩
    rcases List.mem_cons.mp hp with rfl | hp
    · exact Ne.symm hCD
    · exact offC p hp
theorem ne_strs {a b : Addr} {xs ys : List Value} {ss : List Str} {ka kb : Nat} {news : List (Addr × Obj)} {Q : Value → Shared → Prop} (N : News h₀ L s.heap news) (ma : (a, listOf xs.toArray ka) ∈ news) (mb : (b, listOf ys.toArray kb) ∈ news) (hx : StrsAre xs ss) (hy : StrsAre ys ss) (hu : A.units < cLine) (h : Q (.bool false) s) :
    wpAny (model prog w) A (compareOp .NotEq (.ref a) (.ref b)) Q E s := by
  have hl : xs.length = ys.length := hx.len_eq.trans hy.len_eq.symm
  refine RcNeAt.lists (e := fun _ => true) ⟨_, (N _ ma).1, rfl, ka, rfl⟩ ⟨_, (N _ mb).1, rfl, kb, rfl⟩ (by simpa using hl) hu (fun j h1 h2 => ?_) prog w E Q ?_
  · obtain ⟨x, t, u, e1, e2⟩ := strs_key hx hy j (by simpa using h1) (by simpa using h2)
    simp only [List.getElem_toArray, e1, e2]
    have := EqAt.str_str (A := A.in1) (s := s) x t x u
    rwa [beq_self_eq_true] at this
  · rw [show (List.range xs.toArray.size).all (fun _ => true) = true from by simp]
    exact h
end
end Mine
end
section
set_option maxRecDepth 100000
namespace Mine
inductive DP (Z : Led) (kv : Str × Value) (p : Str × DV) : Prop
  | mk (k : kv.1 = p.1) (l : Addr) (n : Nat) (wv : Value) (e : kv.2 = .ref l) (h : (l, PySem.W.listOf #[wv] n) ∈ Z) (d : DVAt Z wv p.2)
theorem DP.k {Z : Led} {kv : Str × Value} {p : Str × DV} : DP Z kv p → kv.1 = p.1 | .mk k .. => k
theorem DP.mono {Z Z' : Led} (e : Ext Z Z') : ∀ a b, DP Z a b → DP Z' a b := fun _ _ ⟨h, l, n, wv, h1, h2, h3⟩ => ⟨h, l, n, wv, h1, e _ h2, h3.mono e⟩
inductive DD (w : World) (Z : Led) (o : Obj) (l : List (Str × DV)) : Prop
  | mk (kvs : List (Str × Value)) (d : o.IsDictOf (PySem.strKind PG w) kvs) (a : All2 (DP Z) kvs l)
theorem DD.mono {w : World} {Z Z' : Led} {o : Obj} {l : List (Str × DV)} (e : Ext Z Z') (h : DD w Z o l) : DD w Z' o l :=
  let ⟨k, a, b⟩ := h; ⟨k, a, b.mono (DP.mono e)⟩
theorem all2_anyD {Z : Led} {x : Str} : ∀ {kvs : List (Str × Value)} {l : List (Str × DV)}, All2 (DP Z) kvs l → l.any (fun q => decide (q.1 = x)) = kvs.any (fun q => decide (q.1 = x))
  | _, _, .nil => rfl
  | _, _, .cons h r => by rw [List.any_cons, List.any_cons, all2_anyD r, h.k]
theorem all2_keysD {Z : Led} : ∀ {kvs : List (Str × Value)} {l : List (Str × DV)}, All2 (DP Z) kvs l → kvs.map (·.1) = l.map (·.1)
  | _, _, .nil => rfl
  | _, _, .cons h r => by rw [List.map_cons, List.map_cons, all2_keysD r, h.k]
theorem all2_keysV {Z : Led} : ∀ {kvs : List (Str × Value)} {l : List (Str × DV)}, All2 (VP Z) kvs l → kvs.map (·.1) = l.map (·.1)
  | _, _, .nil => rfl
  | _, _, .cons h r => by rw [List.map_cons, List.map_cons, all2_keysV r, h.1]
theorem val_cons {q : Str × Value} {r : List (Str × Value)} {x : Str} : valueAt (q :: r) x = if q.1 = x then some q.2 else valueAt r x := by
  unfold valueAt
  rw [List.find?_cons]
  by_cases h : q.1 = x
  · simp [h]
  · simp [h]
theorem all2_two {α β γ : Type} {P : α → γ → Prop} {Q : β → γ → Prop} {C : List α → List β → Prop} (nil : C [] []) (cons : ∀ a b p xs ys, P a p → Q b p → C xs ys → C (a :: xs) (b :: ys)) {xs : List α} {l : List γ} (h1 : All2 P xs l) : ∀ {ys : List β}, All2 Q ys l → C xs ys := by
  induction h1 with
  | nil => intro ys h2; cases h2; exact nil
  | cons a _ ih => intro ys h2; cases h2 with | cons b s => exact cons _ _ _ _ _ a b (ih s)
inductive BothAt (Z : Led) (x : Str) (ka kb : List (Str × Value)) : Prop
  | mk (v : Value) (li : Addr) (n : Nat) (wv : Value) (dv : DV) (h1 : valueAt ka x = some v) (h2 : FVAt Z v dv) (h3 : valueAt kb x = some (.ref li)) (h4 : (li, PySem.W.listOf #[wv] n) ∈ Z) (h5 : DVAt Z wv dv)
theorem both_at {Z : Led} {x : Str} {ka kb : List (Str × Value)} {l : List (Str × DV)} (h1 : All2 (VP Z) ka l) (h2 : All2 (DP Z) kb l) : kb.any (fun q => decide (q.1 = x)) = true → BothAt Z x ka kb :=
  all2_two (C := fun ka kb => kb.any (fun q => decide (q.1 = x)) = true → BothAt Z x ka kb) (fun h => nomatch h) (fun a b p xs ys ha hb ih h => by
    obtain ⟨e2, li, n, wv, e3, hm, hd⟩ := hb
    by_cases hx : p.1 = x
    · exact ⟨a.2, li, n, wv, p.2, by rw [val_cons, if_pos (ha.1.trans hx)], ha.2, by rw [val_cons, if_pos (e2.trans hx), e3], hm, hd⟩
    · rw [List.any_cons, Bool.or_eq_true, decide_eq_true_eq] at h
      obtain ⟨v, li', n', wv', dv, a1, a2, a3, a4, a5⟩ := ih (h.resolve_left fun q => hx (e2 ▸ q))
      exact ⟨v, li', n', wv', dv, by rw [val_cons, if_neg (fun q => hx (ha.1 ▸ q)), a1], a2, by rw [val_cons, if_neg (fun q => hx (e2 ▸ q)), a3], a4, a5⟩) h1 h2
theorem all2_lenD {Z : Led} {kvs : List (Str × Value)} {l : List (Str × DV)} (h : All2 (DP Z) kvs l) : kvs.length = l.length := h.len
section
variable {w : World} {A : Around} {E : Value → Shared → Prop} {s : Shared} {h₀ : Heap} {L d : Addr} {m : Str → Option Value} {news : Led} {g : Obj → Led} {o : Obj} {Z : Led} {l : List (Str × DV)} {x : Str} {t : Tok}
theorem dd_notin {Q : Value → Shared → Prop} (N : News h₀ L s.heap news) (hp : (d, o) ∈ news) (hd : DD w Z o l) (lo : (d == sysModules) = false) (h : ∀ b, l.any (fun q => decide (q.1 = x)) = b → Q (.bool (!b)) { s with toks := s.toks + 1 }) :
    wpAny (model PG w) A (compareOp .NotIn (.str x t) (.ref d)) Q E s := by
  obtain ⟨kvs, hk, ha⟩ := hd
  refine kdg_notin N hp hk lo (strKind_is PG w x t) _ rfl ?_
  rw [valueAt_none_any, ← all2_anyD ha]
  exact h _ rfl
theorem dd_set {v : Value} {dv : DV} {Q : Unit → Shared → Prop} (F : Fr h₀ L s.heap m) (N : News h₀ L s.heap news) (U : UpdF d o news g) (hd : DD w Z o l) (hz : l.length ≤ 1000) (hn : l.any (fun q => decide (q.1 = x)) = false) (hv : DP Z (x, v) (x, dv))
    (h : ∀ h' o', DD w Z o' (l ++ [(x, dv)]) → Fr h₀ L h' m → News h₀ L h' (g o') → Q () { s with heap := h', toks := s.toks + 1 }) :
    wpAny (model PG w) A (setItem (.ref d) (.str x t) v) Q E s := by
  obtain ⟨kvs, hk, ha⟩ := hd
  refine kda_set F N U hk (strKind_is PG w x t) (by rw [ha.len, sizeLine_eq]; lia) fun h' o' F' N' hd' => ?_
  have e : valueAt kvs x = none := by
    have := valueAt_none_any (kvs := kvs) (x := x)
    rw [← all2_anyD ha, hn] at this
    exact Option.isSome_eq_false_iff.mp this |> Option.isNone_iff_eq_none.mp
  rw [PyProof.Rows.stored_absent e] at hd'
  exact h h' o' ⟨_, hd', ha.snoc hv⟩ F' N'
end
theorem setd_any {l : List (Str × DV)} {p : Str × DV} {b : Bool} (h : l.any (fun q => decide (q.1 = p.1)) = b) : setd l p = if b then l else l ++ [p] := by
  unfold setd; rw [h]
end Mine
end
section
set_option maxRecDepth 100000

namespace Mine
section
variable {prog : Program} {w : World} {A : Around} {E : Value → Shared → Prop} {s : Shared} {h₀ : Heap} {L d : Addr} {m : Str → Option Value} {news : List (Addr × Obj)} {o : Obj} {kvs : List (Str × Value)}
theorem list_dict {Q : Value → Shared → Prop} (hh : A.handled = none) (F : Fr h₀ L s.heap m) (N : News h₀ L s.heap news) (hp : (d, o) ∈ news) (hd : o.IsDictOf (PySem.strKind prog w) kvs) (lo : (d == sysModules) = false) (hn : kvs.length ≤ 1000)
    (h : ∀ B c h' tk vs, Fr h₀ L h' m → News h₀ L h' ((B, listOf (vs : List Value).toArray c) :: news) → (∀ q ∈ news, q.1 < B) → StrsAre vs (kvs.map (·.1)) → Q (.ref B) { s with heap := h', toks := tk }) :
    wpAny (model prog w) A (call (.type "list") [.ref d]) Q E s := by
  obtain ⟨ep, hat⟩ := (kda_dict N hp hd).dictAt
  exact kdl_N (kdl_dict (knd := PySem.strKind prog w) (kvs := kvs) (ep := ep) lo) hh F N hat (kdl_size (by lia)) fun B c h' tk vs F' N' l1 hl hv =>
    h B c h' tk vs F' N' l1 (strs_of_dict (n := 0) hl hv)
end
end Mine
end
section
set_option maxRecDepth 100000

open Sem (wp)
open PySem.Builtin PySem.Builtin.ObjectAttr
namespace Mine
abbrev bV : List Value := [.type "ValueError", .type "Exception", .type "BaseException", .type "object"]
inductive ExCls (h : Heap) (C : Addr) (mN mD : Str → Option Value) : Prop
  | mk (nm q N bs sn sub ab col dd k0 k1 k2 k3 k5 D c0 ddD cdD slD) (h1 : h.get? C = some (excClassObj nm q C N bs (.ref D :: bV) true sn sub ab col dd k0 k1 k2 k3 k5 "ValueError.__new__")) (h2 : h.Ns N mN) (h3 : h.get? D = some { cls := c0, dict := ddD, data := .cls cdD, slots := slD }) (h4 : h.Ns cdD.ns mD) : ExCls h C mN mD
theorem ExCls.keeps {h h' : Heap} {C : Addr} {mN mD : Str → Option Value} (X : ExCls h C mN mD) (k : ∀ b o, h.get? b = some o → h'.get? b = some o) : ExCls h' C mN mD := by
  obtain ⟨nm, q, N, bs, sn, sub, ab, col, dd, k0, k1, k2, k3, k5, D, c0, ddD, cdD, slD, h1, h2, h3, h4⟩ := X
  exact ⟨nm, q, N, bs, sn, sub, ab, col, dd, k0, k1, k2, k3, k5, D, c0, ddD, cdD, slD, k _ _ h1, h2.keeps k, k _ _ h3, h4.keeps k⟩
section
variable {prog : Program} {w : World} {A : Around} {E : Value → Shared → Prop} {h : Heap} {g : Array GenState} {d : Drawn} {t : Nat} {os : OsState}
variable {nm q : Str} {C D N : Addr} {bs : List Value} {sn : List Str} {sub : List Value} {ab : Bool} {col : Option Bool} {dd : Option Addr} {k0 k1 k2 k3 k5 : Option Value} {mN mD : Str → Option Value} {name : Str}
  {c0 : Value} {ddD : Option Addr} {cdD : ClassData} {slD : Array (Option Value)}
theorem lookX {M : Model} {y : Option Value} {Q : Option Value → Shared → Prop} (hC : h.get? C = some (excClassObj nm q C N bs (.ref D :: bV) true sn sub ab col dd k0 k1 k2 k3 k5 "ValueError.__new__")) (hn : h.Ns N mN)
    (hD : h.get? D = some { cls := c0, dict := ddD, data := .cls cdD, slots := slD }) (hnD : h.Ns cdD.ns mD) (hB : typeLookup (.type "ValueError") name = pure y)
    (hq : Q (match mN name with | some v => some v | none => match mD name with | some v => some v | none => y) ⟨h, g, d, t, os⟩) : wpAny M A (typeLookup (.ref C) name) Q E ⟨h, g, d, t, os⟩ := by
  have hrest : lookupAlong bV name = pure y := by rw [typeLookup_eq, PySem.F.store_ValueError.mro] at hB; exact hB
  rw [typeLookup_eq]
  refine wpAny_bind (wpAny_mroOf_exc hC ?_)
  rw [lookupAlong_cons]
  refine wpAny_bind (wpAny_classOwn_exc hC hn ?_)
  cases hv : mN name with
  | some v => rw [hv] at hq; exact wpAny_pure hq
  | none =>
    rw [hv] at hq
    show wpAny M A (lookupAlong (Value.ref D :: bV) name) Q E _
    rw [lookupAlong_cons]
    refine wpAny_bind (wpAny_classOwn_cls hD hnD ?_)
    cases hw : mD name with
    | some v => rw [hw] at hq; exact wpAny_pure hq
    | none =>
      rw [hw] at hq
      show wpAny M A (lookupAlong bV name) Q E _
      rw [hrest]; exact wpAny_pure hq
theorem check_newX {M : Model} {rest : List Value} {Q : Unit → Shared → Prop} (hC : h.get? C = some (excClassObj nm q C N bs (.ref D :: bV) true sn sub ab col dd k0 k1 k2 k3 k5 "ValueError.__new__"))
    (hq : Q () ⟨h, g, d, t, os⟩) : wpAny M A (checkBuiltinCall "ValueError.__new__" ⟨.ref C :: rest, []⟩) Q E ⟨h, g, d, t, os⟩ := by
  have Fn := PySem.F.excBase_ValueError
  have hcont : (Value.ref C :: .ref D :: bV).contains (.type "ValueError") = true := rfl
  have hstar := Fn.noStar
  simp only [checkBuiltinCall, Fn.newKind, Fn.newSplit, Fn.newRow]
  repeat (first | refine wpAny_loadPart_at hC ?_ | (refine wpAny_isSubtype_exc hC ?_; rw [hcont]) | refine wpAny_staticBase_exc hC ?_ | refine wpAny_madeBy_exc hC ?_ | simp only [bne_self_eq_false, Bool.false_eq_true, if_false] | wp_step)
  exact hq
theorem newX {R : Result → Shared → Prop} {rest : List Value} (hC : h.get? C = some (excClassObj nm q C N bs (.ref D :: bV) true sn sub ab col dd k0 k1 k2 k3 k5 "ValueError.__new__"))
    (hq : R (.ok (.ret (.ref (h.objs.size + 1)))) ⟨(h.push { cls := .type "tuple", data := .seq rest.toArray }).push
      { cls := .ref C, data := .fields #[.ref h.objs.size, .none, .none, .none, .bool false, .none] }, g, d, t, os⟩) (hrest : rest.length ≤ sizeLine) :
    codeAny (model prog w) A (.builtin "ValueError.__new__" ⟨.ref C :: rest, []⟩) R ⟨h, g, d, t, os⟩ := by
  have Fn := PySem.F.excBase_ValueError
  have hends := Fn.ends
  have hcB : (Value.ref C :: .ref D :: bV).contains (.type "ValueError") = true := rfl
  have hcA : (Value.ref C :: .ref D :: bV).contains (.type "AttributeError") = false := rfl
  have hcN : (Value.ref C :: .ref D :: bV).contains (.type "NameError") = false := rfl
  refine codeAny_builtinAt Fn.entry ?_
  unfold Builtin.«BaseException.__new__»
  refine PySem.wpAt_bind ?_
  show PySem.wpAt _ _ _ (stack >>= _) _ _ _
  refine PySem.wpAt_bind (PySem.wpAt_stack fun p below => PySem.wpAt_of_wpAny ?_)
  wp_walk
  refine PySem.wpAt_of_wpAny ?_
  rw [Fn.owner]
  repeat (first | with_reducible refine wpAny_madeHere_exc Fn.canon hC ?_ | with_reducible refine wpAny_loadPart_at hC ?_ | (with_reducible refine wpAny_isSubtype_exc hC ?_; first | rw [hcB] | rw [hcA] | rw [hcN]) | wp_step)
  show R _ _
  rw [Heap.size_push]
  exact hq
abbrev excO (C t : Addr) : Obj := { cls := .ref C, data := .fields #[.ref t, .none, .none, .none, .bool false, .none] }
abbrev excHeap (h : Heap) (C : Addr) (rest : List Value) : Heap := (h.push { cls := .type "tuple", data := .seq rest.toArray }).push (excO C h.objs.size)
theorem typeCallX {rest : List Value} {fI : Addr} {oI : Obj} {Q : Fin → Shared → Prop}
    (hC : h.get? C = some (excClassObj nm q C N bs (.ref D :: bV) true sn sub ab col dd k0 k1 k2 k3 k5 "ValueError.__new__")) (hn : h.Ns N mN)
    (hD : h.get? D = some { cls := c0, dict := ddD, data := .cls cdD, slots := slD }) (hnD : h.Ns cdD.ns mD) (hi : mN "__init__" = some (.ref fI)) (hfI : h.get? fI = some oI) (hfc : oI.cls = .type "function")
    (hq : wpAny (model prog w) A (call (.ref fI) (.ref (h.objs.size + 1) :: rest)) (fun r s' => r = .none ∧ Q (.done (.ret (.ref (h.objs.size + 1)))) s') E ⟨excHeap h C rest, g, d, t, os⟩) (hrest : rest.length ≤ sizeLine) :
    wpAny (model prog w) A (Builtin.«type.__call__» ⟨.ref C :: rest, []⟩) Q E ⟨h, g, d, t, os⟩ := by
  have Fn := PySem.F.excBase_ValueError
  repeat (first | with_reducible refine wpAny_loadPart_at hC ?_ | with_reducible refine wpAny_madeBy_exc hC ?_ | wp_step)
  refine codeAny_call_builtin_code (Code.quiet_builtin _ Fn.quiet) (check_newX hC ?_)
  refine newX hC ?_ hrest
  show wpAny _ _ _ _ _ _
  have up : ∀ b o, h.get? b = some o → (excHeap h C rest).get? b = some o := fun b o e => Heap.get?_push_of_some _ (Heap.get?_push_of_some _ e)
  have hC₁ := up _ _ hC
  have hn₁ : (excHeap h C rest).Ns N mN := hn.keeps up
  have hD₁ := up _ _ hD
  have hnD₁ : (excHeap h C rest).Ns cdD.ns mD := hnD.keeps up
  have hfI₁ := up _ _ hfI
  have hget : (excHeap h C rest).get? (h.objs.size + 1) = some (excO C h.objs.size) := by heap_get
  have hcC : (Value.ref C :: .ref D :: bV).contains (.ref C) = true := by simp
  unfold isInstance
  repeat (first | with_reducible refine wpAny_loadPart_at hget ?_ | (with_reducible refine wpAny_isSubtype_exc hC₁ ?_; rw [hcC]) | wp_step)
  show wpAny _ _ (typeLookup (.ref C) _) _ _ _
  refine lookX hC₁ hn₁ hD₁ hnD₁ Fn.init.lookup ?_
  rw [hi]
  refine wpAny_holding (wpAny_bind ?_)
  unfold bindSpecial
  refine wpAny_bind (wpAny_typeOf (T := "function") ⟨_, hfI₁, hfc⟩ ?_)
  rw [if_pos (by decide)]
  refine wpAny_pure (wpAny_bind (wpAny_mono hq (fun r s' hr => ?_) fun _ _ x => x))
  obtain ⟨rfl, hQ⟩ := hr
  wp_walk
  exact hQ
theorem callX {rest : List Value} {fI : Addr} {oI : Obj} {Q : Value → Shared → Prop} (X : ExCls h C mN mD) (hi : mN "__init__" = some (.ref fI)) (hfI : h.get? fI = some oI) (hfc : oI.cls = .type "function")
    (hq : wpAny (model prog w) (A.under (.builtin "type.__call__" ⟨.ref C :: rest, []⟩)) (call (.ref fI) (.ref (h.objs.size + 1) :: rest)) (fun r s' => r = .none ∧ Q (.ref (h.objs.size + 1)) s') E ⟨excHeap h C rest, g, d, t, os⟩) (hrest : rest.length ≤ sizeLine) :
    wpAny (model prog w) A (call (.ref C) rest) Q E ⟨h, g, d, t, os⟩ := by
  obtain ⟨nm, q, N, bs, sn, sub, ab, col, dd, k0, k1, k2, k3, k5, D, c0, ddD, cdD, slD, hC, hn, hD, hnD⟩ := X
  have f1 := tc_lookup
  have f2 := tc_bind (.ref C)
  have hT : (⟨h, g, d, t, os⟩ : Shared).TypeIs (.ref C) "type" := ⟨_, hC, rfl⟩
  refine wpAny_call (codeAny_of_tree ?_)
  show wpAny _ _ (callAny (.ref C) _) _ _ _
  repeat (any_goals (first | assumption | with_reducible refine wpAny_loadPart_at hC ?_ | wp_step))
  refine ⟨rfl, ?_⟩
  exact codeAny_call_builtin_at (Code.quiet_builtin _ (by decide +kernel)) entry_typeCall (wpAny_check_type_call_sub hC (typeCallX hC hn hD hnD hi hfI hfc hq hrest))
theorem metV1 : findCls [] (.type "ValueError") (.type "type") "__init__" = some (.val (.builtin "ValueError.__init__")) := by first | rfl | kernel_rfl
theorem metV2 : typeOf (.type "ValueError") = pure (.type "type") := by first | rfl | kernel_rfl
theorem metV3 : Manifest.isStub "ValueError" = false := by decide +kernel
theorem metV4 : handedIn (.builtin "ValueError.__init__") = true := by first | rfl | decide +kernel
theorem metV {prog : Program} {w : World} {A : Around} {E : Value → Shared → Prop} {s : Shared} {h₀ : Heap} {L : Addr} {m : Str → Option Value} {pl : Sem Bool} {Q : Value × List Value → Shared → Prop} (F : Fr h₀ L s.heap m) (h : Q (.builtin "ValueError.__init__", []) { s with toks := s.toks + 1 }) :
    wpAny (model prog w) A (getMethod (.type "ValueError") "__init__" pl) Q E s :=
  have X0 : Frag.In [] h₀ := fun _ _ e => nomatch e
  method_type (K := []) (T := "ValueError") (name := "__init__") (v := .builtin "ValueError.__init__") F X0 metV2 metV3 metV1 metV4 h
def NsO (o : Obj) (m : Str → Option Value) : Prop := ∃ es ep, o.data = .dict es ep ∧ StrKeys es ∧ UniqKeys es ∧ ∀ name, nsFind es name = m name
theorem NsO.at {o : Obj} {m : Str → Option Value} {dx : Addr} (n : NsO o m) (e : h.get? dx = some o) : h.Ns1 dx m := let ⟨es, ep, r⟩ := n; ⟨o, es, ep, e, r⟩
theorem nsO_of {m : Str → Option Value} {dx : Addr} (n : h.Ns1 dx m) : ∃ o, h.get? dx = some o ∧ NsO o m := let ⟨o, es, ep, e, r⟩ := n; ⟨o, e, es, ep, r⟩
theorem check_saX {M : Model} {o : Obj} {x : Addr} {v nameV : Value} {Q : Unit → Shared → Prop}
    (hC : h.get? C = some (excClassObj nm q C N bs (.ref D :: bV) true sn sub ab col dd k0 k1 k2 k3 k5 "ValueError.__new__")) (hx : h.get? x = some o) (hc : o.cls = .ref C) (hq : Q () ⟨h, g, d, t, os⟩) :
    wpAny M A (checkBuiltinCall "object.__setattr__" ⟨[.ref x, nameV, v], []⟩) Q E ⟨h, g, d, t, os⟩ := by
  have SF := PySem.F.store_ValueError
  have hcB : (Value.ref C :: .ref D :: bV).contains (.type "object") = true := rfl
  have ha := SF.args (.ref x) nameV v
  simp only [checkBuiltinCall, SF.kind, SF.split]
  refine wpAny_bind ?_
  · unfold isInstance
    repeat (first | (with_reducible refine wpAny_loadPart_at hx ?_; rw [hc]) | (with_reducible refine wpAny_isSubtype_exc hC ?_; rw [hcB]) | wp_step)
    exact hq
/-- how a store ends: on the own dict `dx` of the object -/
theorem entryX {tk : Tok} {x : Addr} {o : Obj} {v : Value} {Q : Fin → Shared → Prop}
    (hC : h.get? C = some (excClassObj nm q C N bs (.ref D :: bV) true sn sub ab col dd k0 k1 k2 k3 k5 "ValueError.__new__")) (hn : h.Ns N mN)
    (hD : h.get? D = some { cls := c0, dict := ddD, data := .cls cdD, slots := slD }) (hnD : h.Ns cdD.ns mD) (hna : mN name = none) (hda : mD name = none)
    (hB : typeLookup (.type "ValueError") name = pure none) (hx : h.get? x = some o) (hc : o.cls = .ref C) (hnc : ∀ c, o.data ≠ .cls c)
    (h0 : o.dict = none → ∀ od h' tk', h'.get? h.objs.size = some od → NsO od (fun y => if y = name then some v else none) → h'.get? x = some { o with dict := some h.objs.size } → (∀ b ob, b ≠ x → h.get? b = some ob → h'.get? b = some ob) → Q (.done (.ret .none)) ⟨h', g, d, tk', os⟩)
    (h1 : ∀ dx, o.dict = some dx → ∃ od m ns, h.get? dx = some od ∧ NsO od m ∧ Within m ns ∧ ns.length ≤ 1000 ∧ (∀ od' h' tk', h'.get? dx = some od' → NsO od' (fun y => if y = name then some v else m y) → Heap.SameBut dx h h' → Q (.done (.ret .none)) ⟨h', g, d, tk', os⟩)) :
    wpAny (model prog w) A (Builtin.«object.__setattr__» ⟨[.ref x, .str name tk, v], []⟩) Q E ⟨h, g, d, t, os⟩ := by
  have SF := PySem.F.store_ValueError
  have hpass := SF.passes (.ref x)
  unfold Builtin.«object.__setattr__»
  repeat (first | rw [refuse_eq] | (rw [refuseLoop_ref, refuseLoop_ref, hpass]) | (with_reducible refine wpAny_loadPart_at hx ?_; rw [hc]) | with_reducible refine wpAny_mroOf_exc hC ?_ | (with_reducible refine lookX hC hn hD hnD hB ?_; rw [hna, hda]) | wp_step)
  cases hdx : o.dict with
  | none =>
    rw [if_neg (by simp [typeHasDict])]
    split
    · rename_i hcd
      cases hcd
    split
    · rename_i c hcd
      exact absurd hcd (hnc c)
    · have hx₁ : (h.push { cls := .type "dict", data := .dict #[] }).get? x = some o := Heap.get?_push_of_some _ hx
      have hxs : x ≠ h.objs.size := Nat.ne_of_lt (Heap.lt_size hx)
      refine wpAny_bind (wpAny_alloc' ?_)
      refine wpAny_bind (wpAny_update' hx₁ ?_)
      refine wpAny_pure ?_
      have hgd : ((h.push { cls := .type "dict", data := .dict #[] }).update x fun o => { cls := o.cls, dict := some h.objs.size, data := o.data, slots := o.slots }).get? h.objs.size
          = some { cls := .type "dict", data := .dict #[] } :=
        (Heap.get?_update_ne _ _ _ _ hxs.symm).trans (Heap.get?_push_at rfl rfl)
      have hnd : ((h.push { cls := .type "dict", data := .dict #[] }).update x fun o => { cls := o.cls, dict := some h.objs.size, data := o.data, slots := o.slots }).Ns h.objs.size (fun _ => none) :=
        ⟨_, #[], _, hgd, rfl, fun e he => absurd he (by simp), fun _ => rfl⟩
      show wpAny _ _ (storeInDict h.objs.size (.str name tk) name v) _ _ _
      unfold storeInDict newKeyGuard
      refine wpAny_bind (wpAny_pure (wpAny_bind (wpAny_nsSet1 (Heap.Ns1.of_empty hnd) fun h' hn' hs => ?_)))
      obtain ⟨oD, esD, epD, hoD, hdD, hcD⟩ := hn'.count (Within.cons name v Within.nil)
      refine wpAny_bind (wpAny_lookBehind hoD (by rw [hdD]; exact pastItsLine_dict (Nat.le_trans hcD (by rw [List.length_cons, List.length_nil, sizeLine_eq]; lia))) ?_)
      wp_walk
      obtain ⟨od, e1, e2⟩ := nsO_of hn'
      refine h0 hdx od h' _ e1 e2 ((hs.2 x hxs).trans (Heap.get?_update_self _ hx₁ ?_)) (fun b ob hbx hb => (hs.2 b (Nat.ne_of_lt (Heap.lt_size hb))).trans ((Heap.get?_update_ne _ _ _ _ hbx).trans (Heap.get?_push_of_some _ hb)))
      have hfr := (Heap.get?_some_iff.mp hx).2
      obtain ⟨oc, od, odt, osl⟩ := o
      cases odt <;> first | rfl | exact hfr
  | some dx =>
    refine wpAny_pure ?_
    obtain ⟨od, m, ns, g1, g2, g3, g4, g5⟩ := h1 dx hdx
    show wpAny _ _ (storeInDict dx (.str name tk) name v) _ _ _
    unfold storeInDict newKeyGuard
    refine wpAny_bind (wpAny_pure (wpAny_bind (wpAny_nsSet1 (g2.at g1) fun h' hn' hs => ?_)))
    obtain ⟨oD, esD, epD, hoD, hdD, hcD⟩ := hn'.count (Within.cons name v g3)
    refine wpAny_bind (wpAny_lookBehind hoD (by rw [hdD]; exact pastItsLine_dict (Nat.le_trans hcD (by rw [List.length_cons, sizeLine_eq]; lia))) ?_)
    wp_walk
    obtain ⟨od', e1, e2⟩ := nsO_of hn'
    exact g5 od' h' _ e1 e2 hs
theorem setX {x : Addr} {o : Obj} {v : Value} {Q : Unit → Shared → Prop} (X : ExCls h C mN mD) (hsa : mN "__setattr__" = none) (hsd : mD "__setattr__" = none) (hna : mN name = none) (hda : mD name = none)
    (hB : typeLookup (.type "ValueError") name = pure none) (hx : h.get? x = some o) (hc : o.cls = .ref C) (hnc : ∀ c, o.data ≠ .cls c)
    (h0 : o.dict = none → ∀ od h' tk', h'.get? h.objs.size = some od → NsO od (fun y => if y = name then some v else none) → h'.get? x = some { o with dict := some h.objs.size } → (∀ b ob, b ≠ x → h.get? b = some ob → h'.get? b = some ob) → Q () ⟨h', g, d, tk', os⟩)
    (h1 : ∀ dx, o.dict = some dx → ∃ od m ns, h.get? dx = some od ∧ NsO od m ∧ Within m ns ∧ ns.length ≤ 1000 ∧ (∀ od' h' tk', h'.get? dx = some od' → NsO od' (fun y => if y = name then some v else m y) → Heap.SameBut dx h h' → Q () ⟨h', g, d, tk', os⟩)) :
    wpAny (model prog w) A (setAttr (.ref x) name v) Q E ⟨h, g, d, t, os⟩ := by
  obtain ⟨nm, q, N, bs, sn, sub, ab, col, dd, k0, k1, k2, k3, k5, D, c0, ddD, cdD, slD, hC, hn, hD, hnD⟩ := X
  have SF := PySem.F.store_ValueError
  have f3 := SF.slot.bind (.ref x)
  unfold setAttr callSpecial? specialOf
  repeat (any_goals (first | assumption | (with_reducible refine wpAny_loadPart_at hx ?_; rw [hc]) | (with_reducible refine lookX hC hn hD hnD SF.slot.lookup ?_; rw [hsa, hsd]) | wp_step))
  refine codeAny_call_builtin SF.slot.plain SF.entry (check_saX hC hx hc (entryX hC hn hD hnD hna hda hB hx hc hnc (fun e od h' tk' a1 a2 a3 a4 => ?_) fun dx e => ?_))
  · repeat (any_goals (first | assumption | wp_step))
    exact h0 e od h' _ a1 a2 a3 a4
  · obtain ⟨od, m, ns, g1, g2, g3, g4, g5⟩ := h1 dx e
    refine ⟨od, m, ns, g1, g2, g3, g4, fun od' h' tk' a1 a2 a3 => ?_⟩
    repeat (any_goals (first | assumption | wp_step))
    exact g5 od' h' _ a1 a2 a3
theorem check_initX {M : Model} {e : Addr} {oe : Obj} {rest : List Value} {Q : Unit → Shared → Prop}
    (hC : h.get? C = some (excClassObj nm q C N bs (.ref D :: bV) true sn sub ab col dd k0 k1 k2 k3 k5 "ValueError.__new__")) (he : h.get? e = some oe) (hcls : oe.cls = .ref C) (hq : Q () ⟨h, g, d, t, os⟩) :
    wpAny M A (checkBuiltinCall "ValueError.__init__" ⟨.ref e :: rest, []⟩) Q E ⟨h, g, d, t, os⟩ := by
  have Fn := PySem.F.excBase_ValueError
  have hcB : (Value.ref C :: .ref D :: bV).contains (.type "ValueError") = true := rfl
  have hshort := Fn.noStar
  simp only [checkBuiltinCall, Fn.initKind, Fn.initSplit, Fn.initRow]
  repeat (first | (with_reducible refine wpAny_loadPart_at he ?_; rw [hcls]) | with_reducible refine wpAny_loadPart_at hC ?_ | (with_reducible refine wpAny_isSubtype_exc hC ?_; rw [hcB]) | wp_step)
  refine wpAny_onRaise ?_
  rw [show ∀ (a b : String) (n : Nat), Bind.check ⟨.positional, "*", "ValueError", .self, [⟨"args", .varPos, false⟩]⟩ a b n (List.map (fun x => x.fst) ({ pos := Value.ref e :: rest } : Args).kw) = pure () from
    fun a b n => check_star_args _ _ _ _ _ _]
  exact wpAny_pure hq
end
section
variable {prog : Program} {w : World} {A : Around} {E : Value → Shared → Prop} {s : Shared} {C : Addr} {mN mD : Str → Option Value} {h₀ : Heap} {L : Addr} {m : Str → Option Value} {news : List (Addr × Obj)}
theorem initX {e t0 : Addr} {rest : List Value} {Q : Value → Shared → Prop} (X : ExCls s.heap C mN mD) (F : Fr h₀ L s.heap m) (N : News h₀ L s.heap ((e, excO C t0) :: news)) (off : ∀ p ∈ news, p.1 ≠ e) (hz : rest.length ≤ sizeLine)
    (h : ∀ t1 h', Fr h₀ L h' m → News h₀ L h' ((e, excO C t1) :: (t1, { cls := .type "tuple", data := .seq rest.toArray }) :: news) → (∀ p ∈ news, p.1 ≠ t1) → e ≠ t1 → Q .none { s with heap := h' }) :
    wpAny (model prog w) A (call (.builtin "ValueError.__init__") (.ref e :: rest)) Q E s := by
  obtain ⟨hp, g, d, tk, os⟩ := s
  obtain ⟨nm, q, N', bs, sn, sub, ab, col, dd, k0, k1, k2, k3, k5, D, c0, ddD, cdD, slD, hC, hn, hD, hnD⟩ := X
  have Fn := PySem.F.excBase_ValueError
  have he := (N _ List.mem_cons_self).1
  dsimp only at he F N
  refine wpAny_call (codeAny_call_builtin Fn.init.plain Fn.initEntry (check_initX hC he rfl ?_))
  unfold Builtin.«BaseException.__init__»
  dsimp only
  rw [if_neg (by simp)]
  unfold newTuple Builtin.BaseException.bexcPut
  have he₁ := Heap.get?_push_of_some (h := hp) { cls := .type "tuple", data := .seq rest.toArray } he
  refine wpAny_bind (wpAny_newObj_type (wpAny_bind (wpAny_bind (wpAny_field he₁ rfl rfl (wpAny_bind (wpAny_setField he₁ rfl (by show 0 < 6; decide) ?_))))) hz)
  refine wpAny_letGo (wpAny_pure ?_)
  have hlt := Heap.lt_size he
  have hne : e ≠ hp.objs.size := Nat.ne_of_lt hlt
  have N₁ := N.push F { cls := .type "tuple", data := .seq rest.toArray }
  have F₁ := F.push { cls := .type "tuple", data := .seq rest.toArray }
  have hs : Heap.SameBut e (hp.push { cls := .type "tuple", data := .seq rest.toArray }) ((hp.push { cls := .type "tuple", data := .seq rest.toArray }).update e (Obj.mapFields (·.setIfInBounds 0 (.ref hp.objs.size)))) := Heap.SameBut.update ..
  have hm := N₁ (e, excO C t0) (.tail _ List.mem_cons_self)
  have ho : ∀ p ∈ news, p.1 ≠ hp.objs.size := fun p hp' => Nat.ne_of_lt (Heap.lt_size (N p (.tail _ hp')).1)
  have e1 : ((hp.push { cls := .type "tuple", data := .seq rest.toArray }).update e (Obj.mapFields (·.setIfInBounds 0 (.ref hp.objs.size)))).get? e = some (excO C hp.objs.size) := by
    rw [Heap.get?_update_self _ he₁ rfl]
    rfl
  have N₂ := News.setIn (own := [(hp.objs.size, { cls := .type "tuple", data := .seq rest.toArray })]) (rest := news) N₁ (fun p hp' => by rw [List.mem_singleton.mp hp']; exact Ne.symm hne) off hs e1
  exact h hp.objs.size _ (F₁.change hs hm.2.1 hm.2.2) (fun p hp' => N₂ p (by
    rcases List.mem_cons.mp hp' with rfl | hp'
    · exact List.mem_cons_of_mem _ List.mem_cons_self
    · rcases List.mem_cons.mp hp' with rfl | hp'
      · exact List.mem_cons_self
      · exact List.mem_cons_of_mem _ (List.mem_cons_of_mem _ hp'))) ho hne
/-- the first field of an exception with no dict yet -/
theorem set1X {x : Addr} {o : Obj} {name : Str} {v : Value} {Q : Unit → Shared → Prop} (X : ExCls s.heap C mN mD) (hsa : mN "__setattr__" = none) (hsd : mD "__setattr__" = none) (hna : mN name = none) (hda : mD name = none)
    (hB : typeLookup (.type "ValueError") name = pure none) (F : Fr h₀ L s.heap m) (N : News h₀ L s.heap ((x, o) :: news)) (off : ∀ p ∈ news, p.1 ≠ x) (hc : o.cls = .ref C) (hnc : ∀ c, o.data ≠ .cls c) (hod : o.dict = none)
    (hq : ∀ dx od h' tk', Fr h₀ L h' m → News h₀ L h' ((x, { o with dict := some dx }) :: (dx, od) :: news) → NsO od (fun y => if y = name then some v else none) → (∀ p ∈ news, p.1 ≠ dx) → x ≠ dx → Q () { s with heap := h', toks := tk' }) :
    wpAny (model prog w) A (setAttr (.ref x) name v) Q E s := by
  obtain ⟨hp, g, d, tk, os⟩ := s
  have hx := (N _ List.mem_cons_self).1
  dsimp only at hx F N
  refine setX X hsa hsd hna hda hB hx hc hnc (fun _ od h' tk' a1 a2 a3 a4 => ?_) (fun dx e => by rw [hod] at e; cases e)
  have hne : x ≠ hp.objs.size := Nat.ne_of_lt (Heap.lt_size hx)
  have hm := N _ List.mem_cons_self
  have F' : Fr h₀ L h' m := by
    obtain ⟨oL, es, ep, hL, r⟩ := F.ns
    refine ⟨⟨oL, es, ep, a4 _ _ (Ne.symm hm.2.1) hL, r⟩, fun b ob e => a4 b ob (fun z => by rw [z, hm.2.2] at e; cases e) (F.keep b ob e), F.above⟩
  refine hq hp.objs.size od h' tk' F' (fun p hp' => ?_) a2 (fun p hp' => Nat.ne_of_lt (Heap.lt_size (N p (.tail _ hp')).1)) hne
  rcases List.mem_cons.mp hp' with rfl | hp'
  · exact ⟨a3, hm.2.1, hm.2.2⟩
  · rcases List.mem_cons.mp hp' with rfl | hp'
    · refine ⟨a1, Nat.ne_of_gt F.ns.lt, ?_⟩
      cases q : h₀.get? hp.objs.size with
      | none => rfl
      | some ob => exact absurd (Heap.lt_size (F.keep _ _ q)) (Nat.lt_irrefl _)
    · have := N p (.tail _ hp')
      exact ⟨a4 _ _ (off p hp') this.1, this.2⟩
/-- a further field -/
theorem set2X {x dx : Addr} {o od : Obj} {name : Str} {v : Value} {mA : Str → Option Value} {ns : List Str} {Q : Unit → Shared → Prop} (X : ExCls s.heap C mN mD) (hsa : mN "__setattr__" = none) (hsd : mD "__setattr__" = none) (hna : mN name = none) (hda : mD name = none)
    (hB : typeLookup (.type "ValueError") name = pure none) (F : Fr h₀ L s.heap m) (N : News h₀ L s.heap ((x, o) :: (dx, od) :: news)) (off : ∀ p ∈ news, p.1 ≠ dx) (hne : x ≠ dx) (hc : o.cls = .ref C) (hnc : ∀ c, o.data ≠ .cls c) (hod : o.dict = some dx)
    (hA : NsO od mA) (hw : Within mA ns) (hl : ns.length ≤ 1000)
    (hq : ∀ od h' tk', Fr h₀ L h' m → News h₀ L h' ((x, o) :: (dx, od) :: news) → Q () { s with heap := h', toks := tk' }) :
    wpAny (model prog w) A (setAttr (.ref x) name v) Q E s := by
  obtain ⟨hp, g, d, tk, os⟩ := s
  have hx := (N _ List.mem_cons_self).1
  have hm := N _ (.tail _ List.mem_cons_self)
  dsimp only at hx hm F N
  refine setX X hsa hsd hna hda hB hx hc hnc (fun e => by rw [hod] at e; cases e) (fun dx' e => ?_)
  rw [hod] at e
  cases e
  refine ⟨od, mA, ns, hm.1, hA, hw, hl, fun od' h' tk' a1 a2 a3 => ?_⟩
  exact hq od' h' tk' (F.change a3 hm.2.1 hm.2.2) (News.setIn (own := [(x, o)]) N (fun p hp' => by rw [List.mem_singleton.mp hp']; exact hne) off a3 a1)
/-- `raise` of an exception that the operand makes -/
theorem raiseX {x : Sem Value} {env : Env} {Q : Flow → Shared → Prop} (hh : A.handled = none)
    (h : wpAny (model prog w) A x (fun v s₁ => ∃ e dct t mN mD, v = .ref e ∧ ExCls s₁.heap C mN mD ∧ s₁.heap.get? e = some { cls := .ref C, dict := dct, data := .fields #[.ref t, .none, .none, .none, .bool false, .none] } ∧ E (.ref e) s₁) E s) :
    wpAny (model prog w) A (raiseStmt env (some x) none) Q E s := by
  unfold raiseStmt
  refine wpAny_bind (wpAny_mono h (fun v s₁ h₁ => ?_) fun _ _ x => x)
  obtain ⟨e, dct, t, mN, mD, rfl, ⟨nm, q, N', bs, sn, sub, ab, col, dd, k0, k1, k2, k3, k5, D, c0, ddD, cdD, slD, hC, hn, hD, hnD⟩, he, hE⟩ := h₁
  have hcB : (Value.ref C :: .ref D :: bV).contains (.type "BaseException") = true := rfl
  obtain ⟨hp, g, d, tk, os⟩ := s₁
  repeat (first | with_reducible refine wpAny_loadPart_at he ?_ | with_reducible refine wpAny_loadPart_at hC ?_ | (with_reducible refine wpAny_isSubtype_exc hC ?_; rw [hcB]) | wp_step)
  exact wpAny_raiseNew_none hh hE
def RaisableX (C : Addr) (E : Value → Shared → Prop) (v : Value) (s₁ : Shared) : Prop :=
  ∃ e dct t mN mD, v = .ref e ∧ ExCls s₁.heap C mN mD ∧ s₁.heap.get? e = some { cls := .ref C, dict := dct, data := .fields #[.ref t, .none, .none, .none, .bool false, .none] } ∧ E (.ref e) s₁
theorem RaiseX {x : PySem.Expr} {pos : Pos} {env : Env} {Q : Flow → Shared → Prop} (C : Addr) (hh : A.handled = none) (h : wpAny (model prog w) A (eval x env) (RaisableX C E) E s) : wpAny (model prog w) A (exec (.Raise (some x) none pos) env) Q E s := by
  show wpAny (model prog w) A (do standAt pos; raiseStmt env (some (do let v ← eval x env; standAt pos; pure v)) none) Q E s
  refine wpAny_bind (wpAny_standAt (raiseX (C := C) hh (wpAny_bind (wpAny_mono h (fun v s₁ h₁ => wpAny_bind (wpAny_standAt (wpAny_pure h₁))) fun _ _ x => x))))
theorem leaveX {M : Model} {A₁ : Around} {E₁ : Value → Shared → Prop} {s' : Shared} {base g : Heap} {outer : List Env} {L a e t : Addr} {m : Str → Option Value} {name : Str} {scope : Scope} {cd : Value} {Q : Unit → Shared → Prop} {news : List (Addr × Obj)} {dct : Option Addr} {vs : List Value}
    (K : Below A₁ base outer g) (F : Fr g L s'.heap m) (N : News g L s'.heap ((e, { cls := .ref C, dict := dct, data := .fields #[.ref t, .none, .none, .none, .bool false, .none] }) :: (t, { cls := .type "tuple", data := .seq vs.toArray }) :: news))
    (oe : ∀ p ∈ news, p.1 ≠ e) (ot : ∀ p ∈ news, p.1 ≠ t)
    (hQ : ∀ h', RaisedS base g outer e (.ref C) t vs news h' → g.UpToSlots h' → Q () { s' with heap := h' }) (hk : scope.kind = .function := by rfl) :
    wpAny M (A₁.deeper (envOf name scope L a cd)) (leaving (envOf name scope L a cd) (.ref e)) Q E₁ s' := by
  have K' := K.push (name := name) (a := a) (cd := cd) F hk
  have he := N _ List.mem_cons_self
  have ht := N _ (.tail _ List.mem_cons_self)
  have eb := fresh_of_stays K.stays he.2.2
  have tb := fresh_of_stays K.stays ht.2.2
  have hin : ∀ env ∈ (envOf name scope L a cd :: outer), ∀ b, env.frame = some b → b ∈ e :: t :: (envOf name scope L a cd :: outer).filterMap (·.frame) := fun env he b hb => List.mem_cons_of_mem _ (List.mem_cons_of_mem _ (List.mem_filterMap.mpr ⟨env, he, hb⟩))
  have st : base.StaysIn (hideAll s'.heap (e :: t :: (envOf name scope L a cd :: outer).filterMap (·.frame))) := fun b o q => hideAll_get _ (K'.stays b o q) fun hm => by
    rcases List.mem_cons.mp hm with rfl | hm
    · rw [eb] at q; cases q
    rcases List.mem_cons.mp hm with rfl | hm
    · rw [tb] at q; cases q
    rw [(K'.frames.mem hm).1] at q; cases q
  have sg : ∀ b o, g.get? b = some o → b ∉ outer.filterMap (·.frame) → (hideAll s'.heap (e :: t :: (envOf name scope L a cd :: outer).filterMap (·.frame))).get? b = some o := fun b o q nm => hideAll_get _ (F.keep b o q) fun hm => by
    rcases List.mem_cons.mp hm with rfl | hm
    · rw [he.2.2] at q; cases q
    rcases List.mem_cons.mp hm with rfl | hm
    · rw [ht.2.2] at q; cases q
    rcases kts_mem hm with z | z
    · rw [z, kts_self F] at q
      cases q
    · exact nm z
  have hl : ∀ q ∈ news, (hideAll s'.heap (e :: t :: (envOf name scope L a cd :: outer).filterMap (·.frame))).get? q.1 = some q.2 ∧ g.get? q.1 = none ∧ base.get? q.1 = none := fun q hq => by
    have hq' := N q (.tail _ (.tail _ hq))
    refine ⟨hideAll_get _ hq'.1 fun hm => ?_, hq'.2.2, fresh_of_stays K.stays hq'.2.2⟩
    rcases List.mem_cons.mp hm with z | hm
    · exact oe q hq z
    rcases List.mem_cons.mp hm with z | hm
    · exact ot q hq z
    obtain ⟨env, he, hf⟩ := List.mem_filterMap.mp hm
    rcases List.mem_cons.mp he with rfl | he
    · exact hq'.2.1 (Option.some.inj hf).symm
    · obtain ⟨o, ho, _⟩ := (K.frames.mem (List.mem_filterMap.mpr ⟨env, he, hf⟩)).2
      rw [hq'.2.2] at ho; cases ho
  refine wpAny_leaving_firstW (a0 := .ref t) K'.stack (funFrames_hide K'.frames hin) rfl he.1 (fun b o q => of_hideAll _ q) (hideAll_none _ List.mem_cons_self) rfl rfl rfl fun h' hL => ?_
  obtain ⟨k1, ⟨_, _, k2⟩, k3, k4⟩ := hL
  exact hQ h' ⟨⟨_, st, sg, hl, ⟨k1, hideAll_none _ List.mem_cons_self, k2, k3⟩, hideAll_none _ (.tail _ List.mem_cons_self)⟩, Heap.TupAt.of_slots ⟨_, _, ht.1, rfl, rfl⟩ k4⟩ ((Heap.UpToSlots.of_keeps F.keep).trans k4)
end
end Mine
end
section
set_option maxRecDepth 100000

namespace Mine
theorem leave_onR {M : Model} {A : Around} {E : Value → Shared → Prop} {s' : Shared} {base g g₂ : Heap} {outer : List Env} {L a e t : Addr} {m : Str → Option Value} {name : Str} {scope : Scope} {cd : Value} {Q : Unit → Shared → Prop} {news : List (Addr × Obj)} {cls : Value} {vs : List Value}
    (R : RaisedS base g₂ (envOf name scope L a cd :: outer) e cls t vs news s'.heap) (hsm : g₂.UpToSlots s'.heap) (F : Fr g L g₂ m) (K : Below A base outer g)
    (hQ : ∀ h', RaisedS base g outer e cls t vs news h' → RaisedK base outer e cls t vs news h' → g.UpToSlots h' → Q () { s' with heap := h' }) :
    wpAny M (A.deeper (envOf name scope L a cd)) (leaving (envOf name scope L a cd) (.ref e)) Q E s' := leave_onS K F R hsm hQ
section
variable {prog : Program} {w : World} {A₀ : Around} {E : Value → Shared → Prop} {s' : Shared} {base g g₀ G : Heap} {outer : List Env} {L a e t C : Addr} {m : Str → Option Value} {name : Str} {scope : Scope} {cd : Value} {cl : List (Str × Addr)}
  {vs : List Value} {b₀ : Stmt} {suite : List Stmt} {pos np : Pos} {rest : List ExceptHandler} {Q : Flow → Shared → Prop} {news : List (Addr × Obj)} {KF : Frag}
  {p : Program} {loose : List Str} {mean : ExcName → Option Value} {mg mb : Str → Option Value} {x : Str}
theorem caughtX (R : RaisedS base G (envX name scope L a cd cl :: outer) e (.ref C) t vs news s'.heap) (F : Fr g L G m) (K : Below A₀ base outer g) (hsm : G.UpToSlots s'.heap) (XB : KF.In base) (TB : Top p loose mean mg mb base)
    (D : KtsDicts (outer.filterMap (·.frame)) g) (ex : nsIn KF mainGlobals x = some (some (.ref C))) (q : ktsIn KF C "BaseException" = true)
    (k : ∀ h' g', KtsTurn (outer.filterMap (·.frame)) g g' → Fr g' L h' m → News g' L h' news → Below A₀ base outer g' → KF.In g' → Top p loose mean mg mb g' → KtsDicts (outer.filterMap (·.frame)) g' →
      wpAny (model prog w) ((A₀.deeper (envX name scope L a cd cl)).mark (some (.ref e))) (execs (b₀ :: suite) (envX name scope L a cd cl)) Q E { s' with heap := h' })
    (hk : scope.kind = .function := by rfl) (hx : (envX name scope L a cd cl).kindOf x = some .globalImplicit := by rfl) (hd : (x == ("__debug__" : Str)) = false := by decide)
    (hE : PassesOwnAt (model prog w) ((A₀.deeper (envX name scope L a cd cl)).mark (some (.ref e))) (A₀.deeper (envX name scope L a cd cl)) (envX name scope L a cd cl) E := by passes_own) :
    wpAny (model prog w) (A₀.deeper (envX name scope L a cd cl)) (noteFrame (.ref e) (envX name scope L a cd cl))
      (fun _ s₂ => wpAny (model prog w) (A₀.deeper (envX name scope L a cd cl)) (setFlight (.ref e) none) (fun _ s₃ =>
        wpAny (model prog w) (A₀.deeper (envX name scope L a cd cl)) (handleBy (.ref e) (envX name scope L a cd cl) (.ExceptHandler (some (.Name x np)) none (b₀ :: suite) pos :: rest)) Q E s₃) E s₂) E s' := by
  obtain ⟨⟨B, hB, hBG, hl, hfl, hnew⟩, htup⟩ := R
  have hBG' : ∀ b o, G.get? b = some o → b ∉ (envOf name scope L a cd :: outer).filterMap (·.frame) → B.get? b = some o := hBG
  have hL : B.get? L = none := by
    obtain ⟨_, ⟨L', _, hf, hn', _⟩, _⟩ := hfl.2.2.1
    obtain rfl : L = L' := Option.some.inj hf
    exact hn'
  refine wpAny_looks_onW (Around.frames_deeper K.stack) rfl hfl fun h₄ hheld₄ hsm₄ => ?_
  refine wpAny_landsW hheld₄ fun h₅ hheld hsm₅' => ?_
  have hsm₅ := hsm₄.trans hsm₅'
  obtain ⟨g₅, T₅, F₅, K₅⟩ := kts_ground K F hBG' hheld.1 (hsm.trans hsm₅)
  have X₅ : KF.In g₅ := XB.keeps K₅.stays
  have P₅ : TopRead p loose mg mb g₅ := topRead_of (TB.keeps K₅.stays)
  obtain ⟨ob, hob, hobc⟩ := hheld.there
  obtain ⟨nm, q', N, bs, bm, hdct, sn, sub, ab, col, dd, k0, k1, k2, k3, k5, newId, hC, hbase, hbT⟩ := kts_cls X₅ q
  have hC₅ := F₅.keep _ _ hC
  refine wpAny_handleBy_cons (codeAny_handlers_test (nameX_K F₅ X₅ P₅ ex ?_ hk hx hd)) (by intro q; cases q)
  refine wpAny_excMatches_sub_self hC₅ hob hobc hbase (codeAny_handlers_suite ?_)
  refine lands_againW hheld fun h₆ hfl₆ hsm₆ => ?_
  obtain ⟨g₆, T₆, F₆, K₆⟩ := kts_ground K F hBG' hfl₆.1 ((hsm.trans hsm₅).trans hsm₆)
  have Nl : News g₆ L h₆ news := fun q hq => ⟨hfl₆.1 _ _ (hl q hq).1, (fun z => by have := (hl q hq).1; rw [z, hL] at this; cases this), T₆.none_ _ (kts_none F.keep (hl q hq).2.1)⟩
  exact wpAny_passesOwnAt hE (k h₆ g₆ T₆ F₆ Nl K₆ (XB.keeps K₆.stays) (TB.keeps K₆.stays) (D.turn T₆))
end
section
variable {prog : Program} {w : World} {A₀ A : Around} {s : Shared} {base h₀ : Heap} {L a : Addr} {m : Str → Option Value} {cn : Str} {cs : Scope} {ccd : Value} {news : List (Addr × Obj)} {K : Frag} {p : Program} {loose : List Str} {mean : ExcName → Option Value} {mg mb : Str → Option Value}
    {R : Result → Shared → Prop} {name qual : Str} {params : Arguments} {body : List Stmt} {scope : Scope} {dV kV doc pm cdv ct oc : Value} {an od : Option Addr} {osl : Array (Option Value)} {f : Addr} {args : Args} {binds : List (Str × Value)}
theorem code_defCS0 (B : Below A₀ base [] h₀) (F : Fr h₀ L s.heap m) (X₀ : K.In h₀) (N : News h₀ L s.heap news) (T : Top p loose mean mg mb h₀) (hA : A.frames = some [envOf cn cs L a ccd])
    (ho : K.lookup f = some ⟨oc, od, .func (fnOf name qual params body scope dV kV doc pm an cdv ct), osl⟩) (hcd : codeIn K cdv qual = true) (hroom : A.depth < recursionLimit)
    (hbind : BindsTo s (fnOf name qual params body scope dV kV doc pm an cdv ct) args binds) (hkind : (binds.all fun y => scope.names.lookup y.1 == some .local || scope.names.lookup y.1 == some .cell) = true)
    (hnd : ((cellsFrom 0 scope.names []).map (·.1)).Nodup)
    (h : ∀ g L' h₁ tk cells, Fr h₀ L g m → Fr g L' h₁ (bindL (envOfC qual scope L' f cdv).kindOf binds fun _ => none) → News g L' h₁ (cells ++ news) →
      CellsAre (bindC (envOfC qual scope L' f cdv).kindOf binds fun _ => none) (cellsFrom (L' + 1) scope.names []) cells → Below A base [envOf cn cs L a ccd] g → K.In g → Top p loose mean mg mb g → (∀ p ∈ news, p.1 < L') → KtsDicts ([envOf cn cs L a ccd].filterMap (·.frame)) g →
      wpAny (model prog w) (A.deeper (envOfC qual scope L' f cdv)) (execs body (envOfC qual scope L' f cdv))
        (fun fl s' => LeaveS0 ([envOf cn cs L a ccd].filterMap (·.frame)) h₀ L m g R (match fl with | .ret v => v | _ => .none) s')
        (fun e s' => wpAny (model prog w) (A.deeper (envOfC qual scope L' f cdv)) (leaving (envOfC qual scope L' f cdv) e) (fun _ s'' => R (.error e) s'') (fun e' s'' => R (.error e') s'') s')
        { s with heap := h₁, toks := tk })
    (hck : cs.kind = .function) (hco : scope.isCoroutine = false) (hgen : scope.isGenerator = false) (hk : scope.kind = .function) : codeAny (model prog w) A (.call (.ref f) args) R s := by
  have X := X₀.keeps F.keep
  refine codeAny_call_function hroom (X _ _ ho) rfl hco hgen rfl (codeRec_of X hcd) (hbind _ _ _ _ ?_)
  refine wpAny_newFunctionEnv_cells hk (kindsX hkind _) fun env' he s' x => ?_
  subst he
  refine ⟨(T.nolimit.keeps F.keep).keeps x.toInCall.keep, codeAny_func ?_⟩
  obtain ⟨h₁, tk, rfl, _⟩ := x.done
  have hk₁ := x.toInCall.keep
  obtain ⟨cells, NC, Y⟩ := Cl.news (h₀ := s.heap) (Nat.le_refl _) fun n c hm => ⟨x.cell n c (lookup_of_mem_nodup (cellsFrom_names scope.names 0 (s.heap.objs.size + 1) [] [] rfl ▸ hnd) hm), x.above n c hm⟩
  obtain ⟨oL, es, ep, hLg, hLd, hN, hNs, st, B₂⟩ := kts_enter B F N hA hck
  refine wpAny_mono (h _ s.heap.objs.size h₁ tk cells ⟨hN _ hLg, st, F.above⟩ ⟨x.toInCall.ns, fun b o e => hk₁ b o (of_hideAll _ e), Nat.le_of_eq (hideAll_size _ _)⟩ (fun p hp => ?_) Y B₂ (X₀.keeps st) (T.keeps st) (fun p hp => Heap.lt_size (N p hp).1) (fun b hb => by
      rcases kts_mem hb with rfl | z
      · exact ⟨oL, es, ep, hLg, hLd⟩
      · simp at z)) (fun fl s' hl => ?_) fun _ _ y => y
  · rcases List.mem_append.mp hp with hp | hp
    · refine ⟨(NC p hp).1, (NC p hp).2.1, ?_⟩
      cases q : (hideAll s.heap (news.map (·.1))).get? p.1 with
      | none => rfl
      | some o => have := of_hideAll _ q; rw [(NC p hp).2.2] at this; cases this
    · exact ⟨hk₁ _ _ (N p hp).1, Nat.ne_of_lt (Heap.lt_size (N p hp).1), hideAll_none _ (List.mem_map_of_mem hp)⟩
  obtain ⟨g', L', m', news', T', F', N', k⟩ := hl
  have nL₀ : h₀.get? L = none := kts_self F
  obtain ⟨sl, hs⟩ := T'.up hLg
  refine k ⟨hNs sl _ (F'.keep _ _ hs), fun b o e => F'.keep b o (T'.other b o (st b o e) (fun q => by
    rcases kts_mem q with z | z
    · rw [z, nL₀] at e
      cases e
    · simp at z)), F.above⟩ fun p hp => ⟨(N' p hp).1, fun q => ?_, ?_⟩
  · have := (N' p hp).2.2; rw [q, hs] at this; cases this
  · cases q : h₀.get? p.1 with
    | none => rfl
    | some o =>
      obtain ⟨sl', hs'⟩ := T'.up (st _ _ q)
      have := (N' p hp).2.2
      rw [hs'] at this
      cases this
end
end Mine
end
section
namespace Mine
theorem lt_1 {a b : Nat} {q : Prop} (h : a < b ∧ q) : a < b := h.1
theorem lt_2 {a b : Nat} {p q : Prop} (h : p ∧ a < b ∧ q) : a < b := h.2.1
theorem lt_3 {a b : Nat} {p r q : Prop} (h : p ∧ r ∧ a < b ∧ q) : a < b := h.2.2.1
theorem lt_4 {a b : Nat} {p r t q : Prop} (h : p ∧ r ∧ t ∧ a < b ∧ q) : a < b := h.2.2.2.1
theorem lt_5 {a b : Nat} {p r t u q : Prop} (h : p ∧ r ∧ t ∧ u ∧ a < b ∧ q) : a < b := h.2.2.2.2.1
theorem lt_6 {a b : Nat} {p r t u v q : Prop} (h : p ∧ r ∧ t ∧ u ∧ v ∧ a < b ∧ q) : a < b := h.2.2.2.2.2.1
structure UL (d un j : Nat) : Prop where
  e : d = un + j
section
variable {zd8 zw8 zq8 : Nat} {zA8 : Around}
theorem UL.here : UL zw8 zw8 0 := ⟨rfl⟩
theorem UL.add {zn8 : Nat} (zh8 : UL zd8 zw8 zq8) : UL (zd8 + zn8) zw8 (zq8 + zn8) := ⟨by rw [zh8.e, Nat.add_assoc]⟩
theorem UL.deeper {ze8 : Env} (zh8 : UL zA8.units zw8 zq8) : UL (zA8.deeper ze8).units zw8 (zq8 + 3) := UL.add zh8
theorem UL.under {zs8 : Code} {zn8 : Nat} (zh8 : UL zA8.units zw8 zq8) (zc8 : zs8.cUnits = zn8) : UL (zA8.under zs8).units zw8 (zq8 + zn8) := zc8 ▸ UL.add zh8
theorem UL.in1 (zh8 : UL zA8.units zw8 zq8) : UL zA8.in1.units zw8 (zq8 + 1) := UL.add zh8
theorem UL.mark {zv8 : Option Value} (zh8 : UL zA8.units zw8 zq8) : UL (zA8.mark zv8).units zw8 zq8 := zh8
theorem UL.fin {zk8 : Nat} (zh8 : UL zd8 zw8 zq8) (zb8 : zw8 + zk8 < cLine) (zl8 : Nat.ble zq8 zk8 = true) : zd8 < cLine := units_ok zb8 zh8.e zl8
theorem UL.fin4 {zu8 zi8 zk8 : Nat} (zh8 : UL zd8 zw8 (zi8 + zu8)) (zb8 : zw8 + zu8 + zk8 < cLine) (zl8 : Nat.ble zi8 zk8 = true) : zd8 < cLine := units_ok (j := zi8) zb8 (zh8.e.trans (by rw [Nat.add_comm zi8 zu8, Nat.add_assoc])) zl8
theorem UL.fin5 {zu8 zi8 zj8 zk8 : Nat} (zh8 : UL zd8 zw8 (zi8 + zu8 + zj8)) (zb8 : zw8 + zu8 + zk8 < cLine) (zl8 : Nat.ble (zi8 + zj8) zk8 = true) : zd8 < cLine := units_ok (j := zi8 + zj8) zb8 (zh8.e.trans (by rw [Nat.add_comm zi8 zu8, Nat.add_assoc, Nat.add_assoc])) zl8
theorem UL.fin6 {zu8 zk8 : Nat} (zh8 : UL zd8 zw8 zq8) (zb8 : zw8 + zu8 + zk8 < cLine) (zl8 : Nat.ble zq8 zk8 = true) : zd8 < cLine := units_ok (j := zq8) (Nat.lt_of_le_of_lt (by rw [Nat.add_assoc]; exact Nat.add_le_add_left (Nat.le_add_left zk8 zu8) zw8) zb8) zh8.e zl8
theorem UL.ddeeper {ze8 : Env} (zh8 : UL zA8.depth zw8 zq8) : UL (zA8.deeper ze8).depth zw8 (zq8 + 1) := UL.add zh8
theorem UL.dunder {zs8 : Code} {zn8 : Nat} (zh8 : UL zA8.depth zw8 zq8) (zc8 : zs8.weight = zn8) : UL (zA8.under zs8).depth zw8 (zq8 + zn8) := zc8 ▸ UL.add zh8
theorem UL.din1 (zh8 : UL zA8.depth zw8 zq8) : UL zA8.in1.depth zw8 zq8 := zh8
theorem UL.dmark {zv8 : Option Value} (zh8 : UL zA8.depth zw8 zq8) : UL (zA8.mark zv8).depth zw8 zq8 := zh8
theorem UL.dfin {zk8 : Nat} (zh8 : UL zd8 zw8 zq8) (zb8 : zw8 + zk8 < recursionLimit) (zl8 : Nat.ble zq8 zk8 = true) : zd8 < recursionLimit := room_ok zb8 zh8.e zl8
theorem UL.dfin4 {zu8 zi8 zk8 : Nat} (zh8 : UL zd8 zw8 (zi8 + zu8)) (zb8 : zw8 + zu8 + zk8 < recursionLimit) (zl8 : Nat.ble zi8 zk8 = true) : zd8 < recursionLimit := room_ok (j := zi8) zb8 (zh8.e.trans (by rw [Nat.add_comm zi8 zu8, Nat.add_assoc])) zl8
theorem UL.dfin5 {zu8 zi8 zj8 zk8 : Nat} (zh8 : UL zd8 zw8 (zi8 + zu8 + zj8)) (zb8 : zw8 + zu8 + zk8 < recursionLimit) (zl8 : Nat.ble (zi8 + zj8) zk8 = true) : zd8 < recursionLimit := room_ok (j := zi8 + zj8) zb8 (zh8.e.trans (by rw [Nat.add_comm zi8 zu8, Nat.add_assoc, Nat.add_assoc])) zl8
theorem UL.dfin6 {zu8 zk8 : Nat} (zh8 : UL zd8 zw8 zq8) (zb8 : zw8 + zu8 + zk8 < recursionLimit) (zl8 : Nat.ble zq8 zk8 = true) : zd8 < recursionLimit := room_ok (j := zq8) (Nat.lt_of_le_of_lt (by rw [Nat.add_assoc]; exact Nat.add_le_add_left (Nat.le_add_left zk8 zu8) zw8) zb8) zh8.e zl8
end
theorem le_lit {za8 zm8 zn8 : Nat} (zh8 : za8 ≤ zm8) (zl8 : Nat.ble zm8 zn8 = true) : za8 ≤ zn8 := Nat.le_trans zh8 (Nat.le_of_ble_eq_true zl8)
theorem le_via {za8 zb8 zm8 zn8 : Nat} (ze8 : za8 = zb8) (zh8 : zb8 ≤ zm8) (zl8 : Nat.ble zm8 zn8 = true) : za8 ≤ zn8 := ze8 ▸ le_lit zh8 zl8
theorem le_arr {zv8 : List Value} {zm8 zn8 : Nat} (zh8 : zv8.length ≤ zm8) (zl8 : Nat.ble zm8 zn8 = true) : zv8.toArray.size ≤ zn8 := le_lit zh8 zl8
theorem le_arv {zv8 : List Value} {zb8 zm8 zn8 : Nat} (ze8 : zv8.length = zb8) (zh8 : zb8 ≤ zm8) (zl8 : Nat.ble zm8 zn8 = true) : zv8.toArray.size ≤ zn8 := le_via ze8 zh8 zl8
theorem set_1 {a b c d v : Value} : (#[a, b, c, d] : Array Value).setIfInBounds (Int.toNat 1) v = #[a, v, c, d] := rfl
theorem set_2 {a b c d v : Value} : (#[a, b, c, d] : Array Value).setIfInBounds (Int.toNat 2) v = #[a, b, v, d] := rfl
end Mine
end
section
set_option maxRecDepth 100000
namespace Mine
/-- a frame, what its names hold, what the ledger holds -/
structure PC where
  w : World
  cn : Str
  cs : Scope
  L : Addr
  a : Addr
  ccd : Value
  cl : List (Str × Addr)
  h₀ : Heap
  m : Str → Option Value
  news : Led
abbrev PC.env (c : PC) : Env := envX c.cn c.cs c.L c.a c.ccd c.cl
abbrev PC.at (c : PC) (h : Heap) : Prop := Fr c.h₀ c.L h c.m ∧ News c.h₀ c.L h c.news
/-- what the globals say -/
def Gl (w : World) (h₀ : Heap) : Prop := (hd.heap_39 w.params).In h₀ ∧ ∃ p loose mg mb, TopRead p loose mg mb h₀
theorem Gl.mk {w : World} {h₀ : Heap} {p : Program} {loose : List Str} {mean : ExcName → Option Value} {mg mb : Str → Option Value} (X : (hd.heap_39 w.params).In h₀) (T : Top p loose mean mg mb h₀) : Gl w h₀ := ⟨X, _, _, _, _, topRead_of T⟩
theorem bt_len : bootBuiltins "len" = some (.builtin "len") := by decide +kernel
theorem bt_isinstance : bootBuiltins "isinstance" = some (.builtin "isinstance") := by decide +kernel
theorem bt_abs : bootBuiltins "abs" = some (.builtin "abs") := by decide +kernel
theorem bt_sum : bootBuiltins "sum" = some (.builtin "sum") := by decide +kernel
theorem bt_min : bootBuiltins "min" = some (.builtin "min") := by decide +kernel
theorem bt_sorted : bootBuiltins "sorted" = some (.builtin "sorted") := by decide +kernel
theorem bt_int : bootBuiltins "int" = some (.type "int") := by decide +kernel
theorem bt_str : bootBuiltins "str" = some (.type "str") := by decide +kernel
theorem bt_list : bootBuiltins "list" = some (.type "list") := by decide +kernel
theorem bt_tuple : bootBuiltins "tuple" = some (.type "tuple") := by decide +kernel
theorem bt_range : bootBuiltins "range" = some (.type "range") := by decide +kernel
theorem bt_zip : bootBuiltins "zip" = some (.type "zip") := by decide +kernel
theorem bt_bool : bootBuiltins "bool" = some (.type "bool") := by decide +kernel
/-- the expression is worth v, from the token tk to tk'; the heap stays -/
structure Pu (c : PC) (tk : Nat) (e : PySem.Expr) (v : Value) (tk' : Nat) : Prop where
  go : ∀ (A : Around) (Q E : Value → Shared → Prop) (s : Shared), s.toks = tk → Fr c.h₀ c.L s.heap c.m → News c.h₀ c.L s.heap c.news → Q v { s with toks := tk' } → wpAny (model PG c.w) A (eval e c.env) Q E s
structure PuL (c : PC) (tk : Nat) (es : List PySem.Expr) (vs : List Value) (tk' : Nat) : Prop where
  plain : ∀ pos, (backTo pos (starEach es c.env)).any (·.1) = false
  go : ∀ (A : Around) (Q : List Value → Shared → Prop) (E : Value → Shared → Prop) (pos : Pos) (s : Shared), s.toks = tk → Fr c.h₀ c.L s.heap c.m → News c.h₀ c.L s.heap c.news → Q vs { s with toks := tk' } →
    wpAny (model PG c.w) A (spliced (backTo pos (starEach es c.env))) Q E s
/-- its truth is b -/
structure PuT (c : PC) (tk : Nat) (e : PySem.Expr) (b : Bool) (tk' : Nat) : Prop where
  go : ∀ (A : Around) (Q : Bool → Shared → Prop) (E : Value → Shared → Prop) (s : Shared), s.toks = tk → Fr c.h₀ c.L s.heap c.m → News c.h₀ c.L s.heap c.news → Q b { s with toks := tk' } → wpAny (model PG c.w) A (isTrue e c.env (eval e c.env)) Q E s
section
variable {c : PC} {tk tk1 tk2 tk3 : Nat} {e e1 e2 : PySem.Expr} {v : Value} {x : Str} {pos : Pos}
theorem toks_same {s : Shared} {tk : Nat} (h : s.toks = tk) : ({ s with toks := tk } : Shared) = s := by subst h; rfl
theorem Pu.run {A : Around} {Q E : Value → Shared → Prop} {s : Shared} (p : Pu c s.toks e v tk1) (F : Fr c.h₀ c.L s.heap c.m) (N : News c.h₀ c.L s.heap c.news) (h : Q v { s with toks := tk1 }) : wpAny (model PG c.w) A (eval e c.env) Q E s := p.go A Q E s rfl F N h
theorem PuT.run {A : Around} {Q : Bool → Shared → Prop} {E : Value → Shared → Prop} {s : Shared} {b : Bool} (p : PuT c s.toks e b tk1) (F : Fr c.h₀ c.L s.heap c.m) (N : News c.h₀ c.L s.heap c.news) (h : Q b { s with toks := tk1 }) : wpAny (model PG c.w) A (isTrue e c.env (eval e c.env)) Q E s := p.go A Q E s rfl F N h
def locOk (c : PC) (x : Str) : Bool := c.cs.kind == .function && c.env.kindOf x == some .local && !(x == ("__debug__" : Str))
def gloOk (c : PC) (x : Str) : Bool := c.cs.kind == .function && c.env.kindOf x == some .globalImplicit && !(x == ("__debug__" : Str)) && !(x == ("__name__" : Str))
theorem locOk.spec (h : locOk c x = true) : c.cs.kind = .function ∧ c.env.kindOf x = some .local ∧ (x == ("__debug__" : Str)) = false := by
  simp only [locOk, Bool.and_eq_true, beq_iff_eq, Bool.not_eq_true'] at h
  exact ⟨h.1.1, h.1.2, h.2⟩
theorem gloOk.spec (h : gloOk c x = true) : c.cs.kind = .function ∧ c.env.kindOf x = some .globalImplicit ∧ (x == ("__debug__" : Str)) = false ∧ x ≠ "__name__" := by
  simp only [gloOk, Bool.and_eq_true, beq_iff_eq, Bool.not_eq_true', beq_eq_false_iff_ne] at h
  exact ⟨h.1.1.1, h.1.1.2, by simpa using h.1.2, h.2⟩
theorem Pu.loc (ok : locOk c x = true) (hv : c.m x = some v) : Pu c tk (.Name x pos) v tk := by
  obtain ⟨a, b, d⟩ := locOk.spec ok
  refine ⟨fun A Q E s ht F N h => ?_⟩
  rw [toks_same ht] at h
  exact nameX_L F hv h a b d
theorem Pu.glo (ok : gloOk c x = true) (G : Gl c.w c.h₀) (e : nsIn (hd.heap_39 c.w.params) mainGlobals x = some (some v)) : Pu c tk (.Name x pos) v tk := by
  obtain ⟨a, b, d, _⟩ := gloOk.spec ok
  obtain ⟨X, _, _, _, _, T⟩ := G
  refine ⟨fun A Q E s ht F N h => ?_⟩
  rw [toks_same ht] at h
  exact nameX_K F X T e h a b d
theorem Pu.blt (ok : gloOk c x = true) (G : Gl c.w c.h₀) (e : nsIn (hd.heap_39 c.w.params) mainGlobals x = some none) (hv : bootBuiltins x = some v) : Pu c tk (.Name x pos) v tk := by
  obtain ⟨a, b, d, g⟩ := gloOk.spec ok
  obtain ⟨X, _, _, _, _, T⟩ := G
  refine ⟨fun A Q E s ht F N h => ?_⟩
  rw [toks_same ht] at h
  exact nameX_B F X T e hv g h a b d
theorem Pu.int {i : Int} {k : Nat} : Pu c tk (.Constant (.int i) k pos) (.int i tk) (tk + 1) := by
  refine ⟨fun A Q E s ht F N h => ?_⟩
  subst ht
  exact wpAny_Constant_int h
theorem Pu.str {i : Str} {k : Nat} : Pu c tk (.Constant (.str i) k pos) (.str i tk) (tk + 1) := by
  refine ⟨fun A Q E s ht F N h => ?_⟩
  subst ht
  exact wpAny_Constant_str h
theorem Pu.none {k : Nat} : Pu c tk (.Constant .none k pos) .none tk := by
  refine ⟨fun A Q E s ht F N h => ?_⟩
  rw [toks_same ht] at h
  exact wpAny_Constant_none h
theorem Pu.bool {b : Bool} {k : Nat} : Pu c tk (.Constant (.bool b) k pos) (.bool b) tk := by
  refine ⟨fun A Q E s ht F N h => ?_⟩
  rw [toks_same ht] at h
  exact wpAny_Constant_bool h
/-- an operation of two values -/
structure Op2 (c : PC) (tk : Nat) (t : Sem Value) (v : Value) (tk' : Nat) : Prop where
  go : ∀ (A : Around) (Q E : Value → Shared → Prop) (s : Shared), s.toks = tk → Fr c.h₀ c.L s.heap c.m → News c.h₀ c.L s.heap c.news → Q v { s with toks := tk' } → wpAny (model PG c.w) A t Q E s
theorem Pu.bin {op : Operator} {a b : Value} (p1 : Pu c tk e1 a tk1) (p2 : Pu c tk1 e2 b tk2) (o : Op2 c tk2 (binaryOp op a b) v tk3) : Pu c tk (.BinOp e1 op e2 pos) v tk3 := by
  refine ⟨fun A Q E s ht F N h => ?_⟩
  exact wpAny_BinOp (p1.go A _ E s ht F N (p2.go A _ E _ rfl F N (o.go A _ E _ rfl F N h)))
theorem Pu.cmp {op : CmpOp} {a b : Value} (p1 : Pu c tk e1 a tk1) (p2 : Pu c tk1 e2 b tk2) (o : Op2 c tk2 (compareOp op a b) v tk3) (hm : behindInMarks op e2 = false) : Pu c tk (.Compare e1 [op] [e2] pos) v tk3 := by
  refine ⟨fun A Q E s ht F N h => ?_⟩
  exact wpAny_Compare1 (p1.go A _ E s ht F N (p2.go A _ E _ rfl F N (o.go A _ E _ rfl F N h))) hm
theorem PuT.cmp {op : CmpOp} {a b : Value} {r : Bool} (p1 : Pu c tk e1 a tk1) (p2 : Pu c tk1 e2 b tk2) (o : Op2 c tk2 (compareOp op a b) (.bool r) tk3) (hm : behindInMarks op e2 = false) : PuT c tk (.Compare e1 [op] [e2] pos) r tk3 := by
  refine ⟨fun A Q E s ht F N h => ?_⟩
  exact wpAny_isTrue_Compare1 (p1.go A _ E s ht F N (p2.go A _ E _ rfl F N (o.go A _ E _ rfl F N (wpAny_truthy_bool h)))) hm
theorem Pu.sub {a b : Value} (p1 : Pu c tk e1 a tk1) (p2 : Pu c tk1 e2 b tk2) (o : Op2 c tk2 (subscriptTail e1 e2 a b) v tk3) : Pu c tk (.Subscript e1 e2 pos) v tk3 := by
  refine ⟨fun A Q E s ht F N h => ?_⟩
  exact Subscript_ (p1.go A _ E s ht F N (p2.go A _ E _ rfl F N (o.go A _ E _ rfl F N h)))
section ops
variable {a b : Int} {t u : Tok}
theorem Op2.add : Op2 c tk (binaryOp .Add (.int a t) (.int b u)) (.int (a + b) tk) (tk + 1) := by refine ⟨fun A Q E s ht F N h => ?_⟩; subst ht; exact add_int h
theorem Op2.subI : Op2 c tk (binaryOp .Sub (.int a t) (.int b u)) (.int (a - b) tk) (tk + 1) := by refine ⟨fun A Q E s ht F N h => ?_⟩; subst ht; exact sub_int h
theorem Op2.mul (hm : IntMulOk a b) : Op2 c tk (binaryOp .Mult (.int a t) (.int b u)) (.int (a * b) tk) (tk + 1) := by refine ⟨fun A Q E s ht F N h => ?_⟩; subst ht; exact mul_int h hm
theorem Op2.mod (hb : b ≠ 0) : Op2 c tk (binaryOp .Mod (.int a t) (.int b u)) (.int (a.fmod b) tk) (tk + 1) := by refine ⟨fun A Q E s ht F N h => ?_⟩; subst ht; exact mod_int' hb h
theorem Op2.lt : Op2 c tk (compareOp .Lt (.int a t) (.int b u)) (.bool (decide (a < b))) tk := by refine ⟨fun A Q E s ht F N h => ?_⟩; rw [toks_same ht] at h; exact lt_int h
theorem Op2.le : Op2 c tk (compareOp .LtE (.int a t) (.int b u)) (.bool (decide (a ≤ b))) tk := by refine ⟨fun A Q E s ht F N h => ?_⟩; rw [toks_same ht] at h; exact le_int h
theorem Op2.gt : Op2 c tk (compareOp .Gt (.int a t) (.int b u)) (.bool (decide (a > b))) tk := by refine ⟨fun A Q E s ht F N h => ?_⟩; rw [toks_same ht] at h; exact gt_int h
theorem Op2.ge : Op2 c tk (compareOp .GtE (.int a t) (.int b u)) (.bool (decide (a ≥ b))) tk := by refine ⟨fun A Q E s ht F N h => ?_⟩; rw [toks_same ht] at h; exact ge_int h
theorem Op2.eq : Op2 c tk (compareOp .Eq (.int a t) (.int b u)) (.bool (a == b)) tk := by refine ⟨fun A Q E s ht F N h => ?_⟩; rw [toks_same ht] at h; exact eq_int h
theorem Op2.ne : Op2 c tk (compareOp .NotEq (.int a t) (.int b u)) (.bool (a != b)) tk := by refine ⟨fun A Q E s ht F N h => ?_⟩; rw [toks_same ht] at h; exact ne_int h
end ops
theorem Op2.item {l : Addr} {vs : List Value} {n : Nat} {k : Int} {u : Tok} (hm : (l, PySem.W.listOf vs.toArray n) ∈ c.news) (h0 : 0 ≤ k) (h1 : k < 2 ^ 63) (hx : vs[k.toNat]? = some v)
    (hs : subscripted e2 false (.ref l) (.int k u) = operate [.ref l, .int k u] (getItem (.ref l) (.int k u))) : Op2 c tk (subscriptTail e1 e2 (.ref l) (.int k u)) v tk := by
  refine ⟨fun A Q E s ht F N h => ?_⟩
  rw [toks_same ht] at h
  exact item_litK (News.isList N hm) h0 h1 hx h hs
theorem Op2.itemT {l : Addr} {vs : List Value} {d : Option Addr} {n : Nat} {sl : Array (Option Value)} {k : Int} {u : Tok} {j : Nat} (hm : (l, ({ cls := .type "tuple", dict := d, data := .seq vs.toArray n, slots := sl } : Obj)) ∈ c.news) (h0 : -(2 ^ 63) ≤ k) (h1 : k < 2 ^ 63) (hj : seqIndex? k vs.length = some j) (hx : vs[j]? = some v)
    (hs : subscripted e2 false (.ref l) (.int k u) = operate [.ref l, .int k u] (getItem (.ref l) (.int k u))) : Op2 c tk (subscriptTail e1 e2 (.ref l) (.int k u)) v tk := by
  refine ⟨fun A Q E s ht F N h => ?_⟩
  rw [toks_same ht] at h
  exact item_tupleT (News.isTup N hm) h0 h1 hj hx h hs
theorem PuL.nil : PuL c tk [] [] tk := ⟨fun _ => rfl, fun A Q E pos s ht F N h => by rw [toks_same ht] at h; exact args_nil h⟩
theorem PuL.cons {vs : List Value} {rest : List PySem.Expr} (p1 : Pu c tk e v tk1) (p2 : PuL c tk1 rest vs tk2) (he : starEach (e :: rest) c.env = (false, eval e c.env) :: starEach rest c.env := by rfl) : PuL c tk (e :: rest) (v :: vs) tk2 := by
  refine ⟨fun pos => by rw [he]; exact p2.plain pos, fun A Q E pos s ht F N h => args_cons (p1.go A _ E s ht F N (p2.go A _ E pos _ rfl F N h)) he⟩
theorem Pu.callB {fx : Str} {fp : Pos} {a1 : PySem.Expr} {rest : List PySem.Expr} {id : String} {u : Value} {vs : List Value} (pf : Pu c tk (.Name fx fp) (.builtin id) tk1) (p1 : Pu c tk1 a1 u tk2) (p2 : PuL c tk2 rest vs tk3) {tk4 : Nat} (o : Op2 c tk3 (call (.builtin id) (u :: vs)) v tk4)
    (he : starEach (a1 :: rest) c.env = (false, eval a1 c.env) :: starEach rest c.env) : Pu c tk (.Call (.Name fx fp) (a1 :: rest) [] pos) v tk4 := by
  refine ⟨fun A Q E s ht F N h => ?_⟩
  exact Call_ (pf.go A _ E s ht F N (PyProof.Rows.callWith_builtin1 (args_cons (p1.go A _ E _ rfl F N (p2.go A _ E pos _ rfl F N (o.go A _ E _ rfl F N h))) he) he (p2.plain pos)))
theorem Op2.len {l : Addr} {vs : List Value} {n : Nat} (hm : (l, PySem.W.listOf vs.toArray n) ∈ c.news) (hz : vs.length ≤ 100000) : Op2 c tk (call (.builtin "len") [.ref l]) (.int (vs.length : Nat) (tk + 1)) (tk + 2) := by
  refine ⟨fun A Q E s ht F N h => ?_⟩
  subst ht
  refine len_list (News.isList N hm) ?_ ?_
  · rw [List.size_toArray]; omega
  · rw [List.size_toArray]; exact h
theorem Op2.isN {a : Value} {b : Bool} (hb : (a == .none) = b) : Op2 c tk (compareOp .Is a .none) (.bool b) tk := by
  refine ⟨fun A Q E s ht F N h => ?_⟩; rw [toks_same ht] at h; subst hb; exact is_none_gen h
theorem Op2.notN {a : Value} {b : Bool} (hb : (!(a == .none)) = b) : Op2 c tk (compareOp .IsNot a .none) (.bool b) tk := by
  refine ⟨fun A Q E s ht F N h => ?_⟩; rw [toks_same ht] at h; subst hb; exact isnot_none_gen h
theorem Op2.is0 : Op2 c tk (compareOp .Is .none .none) (.bool true) tk := Op2.isN rfl
theorem Op2.isI {a : Int} {t : Tok} : Op2 c tk (compareOp .Is (.int a t) .none) (.bool false) tk := Op2.isN rfl
theorem Op2.isS {x : Str} {t : Tok} : Op2 c tk (compareOp .Is (.str x t) .none) (.bool false) tk := Op2.isN rfl
theorem Op2.isR {l : Addr} : Op2 c tk (compareOp .Is (.ref l) .none) (.bool false) tk := Op2.isN rfl
theorem Op2.isB {q : Bool} : Op2 c tk (compareOp .Is (.bool q) .none) (.bool false) tk := Op2.isN rfl
theorem Op2.no0 : Op2 c tk (compareOp .IsNot .none .none) (.bool false) tk := Op2.notN rfl
theorem Op2.noI {a : Int} {t : Tok} : Op2 c tk (compareOp .IsNot (.int a t) .none) (.bool true) tk := Op2.notN rfl
theorem Op2.noS {x : Str} {t : Tok} : Op2 c tk (compareOp .IsNot (.str x t) .none) (.bool true) tk := Op2.notN rfl
theorem Op2.noR {l : Addr} : Op2 c tk (compareOp .IsNot (.ref l) .none) (.bool true) tk := Op2.notN rfl
theorem Op2.noB {q : Bool} : Op2 c tk (compareOp .IsNot (.bool q) .none) (.bool true) tk := Op2.notN rfl
theorem Pu.attr {x ox C : Addr} {nm : Str} {es : List DictEntry} {n : Nat} {at_ : Option Value} (p1 : Pu c tk e (.ref x) tk1) (G : Gl c.w c.h₀) (m1 : (x, instObj C ox) ∈ c.news) (m2 : (ox, dictOf es n) ∈ c.news)
    (hg : plainGet (hd.heap_39 c.w.params) C nm = true) (hh : hasDictIn (hd.heap_39 c.w.params) C = true) (ha : findIn (hd.heap_39 c.w.params) (.ref C) nm = some at_) (hn : noGet (hd.heap_39 c.w.params) at_ = true) (hl : getL nm es = some (some v)) (hv : handedIn v = true)
    (he : eval (.Attribute e nm pos) c.env = (do let o ← eval e c.env; standAt pos.atName; let r ← holding [o] (getAttr o nm true); letTemporaryGo e o r; pure r)) :
    Pu c tk (.Attribute e nm pos) v (tk1 + 1) := by
  refine ⟨fun A Q E s ht F N h => ?_⟩
  exact Attribute_any_ (p1.go A _ E s ht F N (get_own F G.1 (InstAt.of_news N m1 m2) hg hh ha hn hl hv h)) he
theorem Pu.cell {cc : Addr} {o : Obj} (ok : (c.cs.kind == .function && c.env.kindOf x == some .cell && !(x == ("__debug__" : Str))) = true) (hc : c.cl.lookup x = some cc) (hm : (cc, o) ∈ c.news) (hd : o.data = .cell (some v)) : Pu c tk (.Name x pos) v tk := by
  simp only [Bool.and_eq_true, beq_iff_eq, Bool.not_eq_true'] at ok
  refine ⟨fun A Q E s ht F N h => ?_⟩
  rw [toks_same ht] at h
  exact nameX_C N hc hm hd h ok.1.1 ok.1.2 ok.2
theorem Op2.same {t : Sem Value} (k : ∀ (A : Around) (Q E : Value → Shared → Prop) (s : Shared), Fr c.h₀ c.L s.heap c.m → News c.h₀ c.L s.heap c.news → Q v s → wpAny (model PG c.w) A t Q E s) : Op2 c tk t v tk := by
  refine ⟨fun A Q E s ht F N h => ?_⟩
  rw [toks_same ht] at h
  exact k A Q E s F N h
theorem evalArgs_of {M : Model} {A : Around} {E : Value → Shared → Prop} {s : Shared} {f : Value} {args : List (Bool × Sem Value)} {Q : Args → Shared → Prop} (hp : args.any (·.1) = false) (h : wpAny M A (spliced args) (fun vs s' => Q ⟨vs, []⟩ s') E s) : wpAny M A (evalArgs f true args []) Q E s := by
  match args, hp with
  | [], _ =>
    unfold evalArgs
    show wpAny M A (spliced [] >>= _) Q E s
    refine wpAny_bind (wpAny_mono h (fun vs s' h' => ?_) fun _ _ x => x)
    refine wpAny_bind (wpAny_pure ?_)
    refine wpAny_holding ?_
    exact wpAny_bind (wpAny_pure (wpAny_bind (wpAny_pure (wpAny_pure h'))))
  | (false, x) :: r, _ => exact evalArgs_plain h
section calls
variable {A : Around} {Q E : Value → Shared → Prop} {s : Shared} {es : List PySem.Expr} {vs ws first : List Value} {g : Addr} {fe : PySem.Expr}
/-- a call whose arguments are pure, what is called being at hand -/
theorem cwR (F : Fr c.h₀ c.L s.heap c.m) (N : News c.h₀ c.L s.heap c.news) (X₀ : (hd.heap_39 c.w.params).In c.h₀) (hk : keepIn (hd.heap_39 c.w.params) (.ref g) = true) (p : PuL c s.toks es vs tk1) (e : first ++ vs = ws)
    (h : wpAny (model PG c.w) A (call (.ref g) ws) Q E { s with toks := tk1 }) : wpAny (model PG c.w) A (callWith pos (.ref g) first (backTo pos (starEach es c.env)) []) Q E s := by
  subst e
  have X := X₀.keeps F.keep
  exact callWith_of (by rw [p.plain]; rfl) (keeps_K hk) (evalArgs_of (p.plain pos) (p.go A _ E pos s rfl F N ⟨X, h⟩))
theorem cwB {id : String} (F : Fr c.h₀ c.L s.heap c.m) (N : News c.h₀ c.L s.heap c.news) (p : PuL c s.toks es vs tk1) (e : first ++ vs = ws)
    (h : wpAny (model PG c.w) A (call (.builtin id) ws) Q E { s with toks := tk1 }) : wpAny (model PG c.w) A (callWith pos (.builtin id) first (backTo pos (starEach es c.env)) []) Q E s := by
  subst e
  exact callWith_builtin (p.plain pos) (evalArgs_of (p.plain pos) (p.go A _ E pos s rfl F N h))
theorem cwT {T : String} (F : Fr c.h₀ c.L s.heap c.m) (N : News c.h₀ c.L s.heap c.news) (p : PuL c s.toks es vs tk1) (e : first ++ vs = ws)
    (h : wpAny (model PG c.w) A (call (.type T) ws) Q E { s with toks := tk1 }) : wpAny (model PG c.w) A (callWith pos (.type T) first (backTo pos (starEach es c.env)) []) Q E s := by
  subst e
  exact PyProof.Rows.callWith_type (p.plain pos) (evalArgs_of (p.plain pos) (p.go A _ E pos s rfl F N h))
/-- a call of a name, its arguments pure -/
theorem ca1 {fx : Str} {fp : Pos} {a1 : PySem.Expr} {rest : List PySem.Expr} (F : Fr c.h₀ c.L s.heap c.m) (N : News c.h₀ c.L s.heap c.news) (X₀ : (hd.heap_39 c.w.params).In c.h₀) (pf : Pu c s.toks (.Name fx fp) (.ref g) s.toks) (hk : keepIn (hd.heap_39 c.w.params) (.ref g) = true) (p : PuL c s.toks (a1 :: rest) vs tk1)
    (h : wpAny (model PG c.w) A (call (.ref g) vs) Q E { s with toks := tk1 }) : wpAny (model PG c.w) A (eval (.Call (.Name fx fp) (a1 :: rest) [] pos) c.env) Q E s :=
  Call_ (pf.go A _ E s rfl F N (cwR F N X₀ hk p rfl h))
theorem ca0 {fx : Str} {fp : Pos} (F : Fr c.h₀ c.L s.heap c.m) (N : News c.h₀ c.L s.heap c.news) (X₀ : (hd.heap_39 c.w.params).In c.h₀) (pf : Pu c s.toks (.Name fx fp) (.ref g) s.toks) (hk : keepIn (hd.heap_39 c.w.params) (.ref g) = true)
    (he : eval (.Call (.Name fx fp) [] [] pos) c.env = (do callWith pos (← eval (.Name fx fp) c.env) [] (backTo pos (starEach [] c.env)) (backToKw pos (keywordEach [] c.env))))
    (h : wpAny (model PG c.w) A (call (.ref g) []) Q E s) : wpAny (model PG c.w) A (eval (.Call (.Name fx fp) [] [] pos) c.env) Q E s :=
  Call_ (pf.go A _ E s rfl F N (callWith_K0 (X₀.keeps F.keep) hk h)) he
def isBT : Value → Bool
  | .builtin _ => true
  | .type _ => true
  | _ => false
theorem cb1 {fv : Value} {fx : Str} {fp : Pos} {a1 : PySem.Expr} {rest : List PySem.Expr} (F : Fr c.h₀ c.L s.heap c.m) (N : News c.h₀ c.L s.heap c.news) (pf : Pu c s.toks (.Name fx fp) fv s.toks) (hb : isBT fv = true) (p : PuL c s.toks (a1 :: rest) vs tk1)
    (h : wpAny (model PG c.w) A (call fv vs) Q E { s with toks := tk1 }) : wpAny (model PG c.w) A (eval (.Call (.Name fx fp) (a1 :: rest) [] pos) c.env) Q E s := by
  refine Call_ (pf.go A _ E s rfl F N ?_)
  cases fv <;> first | exact cwB F N p rfl h | exact cwT F N p rfl h | cases hb
end calls
/-- a value read as a truth -/
structure TrV (v : Value) (b : Bool) : Prop where
  go : ∀ (A : Around) (M : Model) (Q : Bool → Shared → Prop) (E : Value → Shared → Prop) (s : Shared), Q b s → wpAny M A (truthy v) Q E s
theorem TrV.bool {b : Bool} : TrV (.bool b) b := ⟨fun _ _ _ _ _ h => wpAny_truthy_bool h⟩
theorem TrV.none : TrV .none false := ⟨fun _ _ _ _ _ h => truthy_none h⟩
theorem PuT.val {b : Bool} (p : Pu c tk e v tk1) (t : TrV v b) (he : isTrue e c.env (eval e c.env) = (do let v ← eval e c.env; standAt e.pos; holding [v] (truthy v)) := by rfl) : PuT c tk e b tk1 := by
  refine ⟨fun A Q E s ht F N h => ?_⟩
  exact isTrue_plain (p.go A _ E s ht F N (t.go A _ Q E _ h)) he
/-- the names of the frame with x put in -/
def ins (x : Str) (v : Value) (m : Str → Option Value) : Str → Option Value := fun y => if y = x then some v else m y
section stmts
variable {A : Around} {Q : Flow → Shared → Prop} {E : Value → Shared → Prop} {s : Shared} {rest : List Stmt} {np : Pos}
theorem loc_kind (ok : locOk c x = true) : c.cs.kind = .function ∧ c.env.kindOf x = some .local := by
  have := locOk.spec ok
  exact ⟨this.1, this.2.1⟩
theorem asP (F : Fr c.h₀ c.L s.heap c.m) (N : News c.h₀ c.L s.heap c.news) (p : Pu c s.toks e v tk1) (ok : locOk c x = true)
    (h : ∀ h', Fr c.h₀ c.L h' (fun y => if y = x then some v else c.m y) → News c.h₀ c.L h' c.news → wpAny (model PG c.w) A (execs rest c.env) Q E { s with heap := h', toks := tk1 + 1 })
    (hs : swapsWith e (some (.Name x np)) pos.line c.env = pure false := by rfl) : wpAny (model PG c.w) A (execs (.Assign [.Name x np] e pos :: rest) c.env) Q E s :=
  wpAny_execs_cons (wpAny_Assign_Name (p.go A _ E s rfl F N (storeX_L F N (fun h' F' N' => h h' F' N') (loc_kind ok).1 (loc_kind ok).2)) hs)
theorem reP (F : Fr c.h₀ c.L s.heap c.m) (N : News c.h₀ c.L s.heap c.news) (p : Pu c s.toks e v tk1) (h : Q (.ret v) { s with toks := tk1 }) : wpAny (model PG c.w) A (execs (.Return (some e) pos :: rest) c.env) Q E s :=
  wpAny_execs_cons (wpAny_Return_some (p.go A _ E s rfl F N h))
theorem stL {M : Model} {h₀ : Heap} {L a : Addr} {m : Str → Option Value} {cn : Str} {cs : Scope} {ccd : Value} {cl : List (Str × Addr)} {news : Led} {Q : Unit → Shared → Prop} (F : Fr h₀ L s.heap m) (N : News h₀ L s.heap news) (hk : cs.kind = .function) (hx : (envX cn cs L a ccd cl).kindOf x = some .local)
    (h : ∀ h', Fr h₀ L h' (fun y => if y = x then some v else m y) → News h₀ L h' news → Q () { s with heap := h', toks := s.toks + 1 }) : wpAny M A (storeName (envX cn cs L a ccd cl) x v) Q E s := storeX_L F N (fun h' F' N' => h h' F' N') hk hx
end stmts
end
end Mine
namespace Mine
section
variable {w : World} {cn : Str} {cs : Scope} {L a : Addr} {ccd : Value} {cl : List (Str × Addr)} {h₀ : Heap} {m : Str → Option Value} {news : Led} {e : PySem.Expr} {v : Value} {tk1 : Nat} {A : Around} {E : Value → Shared → Prop} {s : Shared}
  {pos fp : Pos} {es : List PySem.Expr} {vs ws first : List Value} {g : Addr} {fe : PySem.Expr} {rest : List Stmt} {x : Str} {np : Pos}
theorem ruE {Q : Value → Shared → Prop} (F : Fr h₀ L s.heap m) (N : News h₀ L s.heap news) (p : Pu ⟨w, cn, cs, L, a, ccd, cl, h₀, m, news⟩ s.toks e v tk1) (h : Q v { s with toks := tk1 }) : wpAny (model PG w) A (eval e (envX cn cs L a ccd cl)) Q E s := p.go A Q E s rfl F N h
theorem ruT {Q : Bool → Shared → Prop} {b : Bool} (F : Fr h₀ L s.heap m) (N : News h₀ L s.heap news) (p : PuT ⟨w, cn, cs, L, a, ccd, cl, h₀, m, news⟩ s.toks e b tk1) (h : Q b { s with toks := tk1 }) : wpAny (model PG w) A (isTrue e (envX cn cs L a ccd cl) (eval e (envX cn cs L a ccd cl))) Q E s := p.go A Q E s rfl F N h
theorem ruL {Q : List Value → Shared → Prop} (F : Fr h₀ L s.heap m) (N : News h₀ L s.heap news) (p : PuL ⟨w, cn, cs, L, a, ccd, cl, h₀, m, news⟩ s.toks es vs tk1) (h : Q vs { s with toks := tk1 }) : wpAny (model PG w) A (spliced (backTo pos (starEach es (envX cn cs L a ccd cl)))) Q E s := p.go A Q E pos s rfl F N h
theorem rcR {Q : Value → Shared → Prop} (F : Fr h₀ L s.heap m) (N : News h₀ L s.heap news) (X : (hd.heap_39 w.params).In h₀) (hk : keepIn (hd.heap_39 w.params) (.ref g) = true) (p : PuL ⟨w, cn, cs, L, a, ccd, cl, h₀, m, news⟩ s.toks es vs tk1) (e : first ++ vs = ws)
    (h : wpAny (model PG w) A (call (.ref g) ws) Q E { s with toks := tk1 }) : wpAny (model PG w) A (callWith pos (.ref g) first (backTo pos (starEach es (envX cn cs L a ccd cl))) []) Q E s := cwR F N X hk p e h
theorem rcB {Q : Value → Shared → Prop} {id : String} (F : Fr h₀ L s.heap m) (N : News h₀ L s.heap news) (p : PuL ⟨w, cn, cs, L, a, ccd, cl, h₀, m, news⟩ s.toks es vs tk1) (e : first ++ vs = ws)
    (h : wpAny (model PG w) A (call (.builtin id) ws) Q E { s with toks := tk1 }) : wpAny (model PG w) A (callWith pos (.builtin id) first (backTo pos (starEach es (envX cn cs L a ccd cl))) []) Q E s := cwB F N p e h
theorem rcT {Q : Value → Shared → Prop} {T : String} (F : Fr h₀ L s.heap m) (N : News h₀ L s.heap news) (p : PuL ⟨w, cn, cs, L, a, ccd, cl, h₀, m, news⟩ s.toks es vs tk1) (e : first ++ vs = ws)
    (h : wpAny (model PG w) A (call (.type T) ws) Q E { s with toks := tk1 }) : wpAny (model PG w) A (callWith pos (.type T) first (backTo pos (starEach es (envX cn cs L a ccd cl))) []) Q E s := cwT F N p e h
theorem raR {Q : Value → Shared → Prop} {fx : Str} {a1 : PySem.Expr} {res : List PySem.Expr} (F : Fr h₀ L s.heap m) (N : News h₀ L s.heap news) (X : (hd.heap_39 w.params).In h₀) (pf : Pu ⟨w, cn, cs, L, a, ccd, cl, h₀, m, news⟩ s.toks (.Name fx fp) (.ref g) s.toks) (hk : keepIn (hd.heap_39 w.params) (.ref g) = true) (p : PuL ⟨w, cn, cs, L, a, ccd, cl, h₀, m, news⟩ s.toks (a1 :: res) vs tk1)
    (h : wpAny (model PG w) A (call (.ref g) vs) Q E { s with toks := tk1 }) : wpAny (model PG w) A (eval (.Call (.Name fx fp) (a1 :: res) [] pos) (envX cn cs L a ccd cl)) Q E s := ca1 F N X pf hk p h
theorem raR0 {Q : Value → Shared → Prop} {fx : Str} (F : Fr h₀ L s.heap m) (N : News h₀ L s.heap news) (X : (hd.heap_39 w.params).In h₀) (pf : Pu ⟨w, cn, cs, L, a, ccd, cl, h₀, m, news⟩ s.toks (.Name fx fp) (.ref g) s.toks) (hk : keepIn (hd.heap_39 w.params) (.ref g) = true)
    (he : eval (.Call (.Name fx fp) [] [] pos) (envX cn cs L a ccd cl) = (do callWith pos (← eval (.Name fx fp) (envX cn cs L a ccd cl)) [] (backTo pos (starEach [] (envX cn cs L a ccd cl))) (backToKw pos (keywordEach [] (envX cn cs L a ccd cl)))))
    (h : wpAny (model PG w) A (call (.ref g) []) Q E s) : wpAny (model PG w) A (eval (.Call (.Name fx fp) [] [] pos) (envX cn cs L a ccd cl)) Q E s := ca0 F N X pf hk he h
theorem raB {Q : Value → Shared → Prop} {fv : Value} {fx : Str} {a1 : PySem.Expr} {res : List PySem.Expr} (F : Fr h₀ L s.heap m) (N : News h₀ L s.heap news) (pf : Pu ⟨w, cn, cs, L, a, ccd, cl, h₀, m, news⟩ s.toks (.Name fx fp) fv s.toks) (hb : isBT fv = true) (p : PuL ⟨w, cn, cs, L, a, ccd, cl, h₀, m, news⟩ s.toks (a1 :: res) vs tk1)
    (h : wpAny (model PG w) A (call fv vs) Q E { s with toks := tk1 }) : wpAny (model PG w) A (eval (.Call (.Name fx fp) (a1 :: res) [] pos) (envX cn cs L a ccd cl)) Q E s := cb1 F N pf hb p h
theorem rsA {Q : Flow → Shared → Prop} (F : Fr h₀ L s.heap m) (N : News h₀ L s.heap news) (p : Pu ⟨w, cn, cs, L, a, ccd, cl, h₀, m, news⟩ s.toks e v tk1) (ok : locOk ⟨w, cn, cs, L, a, ccd, cl, h₀, m, news⟩ x = true) (hs : swapsWith e (some (.Name x np)) pos.line (envX cn cs L a ccd cl) = pure false)
    (h : ∀ h', Fr h₀ L h' (fun y => if y = x then some v else m y) → News h₀ L h' news → wpAny (model PG w) A (execs rest (envX cn cs L a ccd cl)) Q E { s with heap := h', toks := tk1 + 1 }) : wpAny (model PG w) A (execs (.Assign [.Name x np] e pos :: rest) (envX cn cs L a ccd cl)) Q E s := asP F N p ok h hs
theorem rsR {Q : Flow → Shared → Prop} (F : Fr h₀ L s.heap m) (N : News h₀ L s.heap news) (p : Pu ⟨w, cn, cs, L, a, ccd, cl, h₀, m, news⟩ s.toks e v tk1) (h : Q (.ret v) { s with toks := tk1 }) : wpAny (model PG w) A (execs (.Return (some e) pos :: rest) (envX cn cs L a ccd cl)) Q E s := reP F N p h
end
end Mine
end
section
set_option maxRecDepth 100000
namespace Mine
open LCg LCt LCp
section
variable {prog : Program} {w : World} {A : Around} {E : Value → Shared → Prop} {s : Shared} {h₀ : Heap} {L : Addr} {m : Str → Option Value} {env : Env}
def SrcTu (h₀ : Heap) (ax : Addr) (its : Array Value) (nw : Led) : Prop := h₀.IsTuple ax its ∨ (ax, tupOf its) ∈ nw
theorem SrcTu.tup {h₀ h : Heap} {L ax : Addr} {its : Array Value} {nw : Led} (S : SrcTu h₀ ax its nw) (k : ∀ b o, h₀.get? b = some o → h.get? b = some o) (N : News h₀ L h nw) : h.IsTuple ax its := by
  rcases S with ⟨o, e, r⟩ | hm
  · exact ⟨o, k _ _ e, r⟩
  · exact ⟨_, (N _ hm).1, rfl, _, rfl⟩
theorem tup_st {ax I : Addr} {its : Array Value} : ∀ i (h h' : Heap) (o : Obj) (nw : List (Addr × Obj)), (h.IsTupleIter I ax i ∧ h.IsTuple ax its) → h.get? I = some o → h'.get? I = some o → (∀ b o, h₀.get? b = some o → h'.get? b = some o) → News h₀ L h' nw → SrcTu h₀ ax its nw → (h'.IsTupleIter I ax i ∧ h'.IsTuple ax its) :=
  fun i h h' o nw st e e' k N S => ⟨by obtain ⟨o', q, r⟩ := st.1; rw [e] at q; cases q; exact ⟨o, e', r⟩, S.tup k N⟩
def CompSrcTu (prog : Program) (w : World) (A : Around) (h₀ : Heap) (L : Addr) (m : Str → Option Value) (env : Env) (elt : PySem.Expr) (x : Str) (scope : Scope) (cl : List (Str × Addr)) (Fin : Shared → List Value → List (Addr × Obj) → Prop) (xv : Value) (s₁ : Shared) : Prop :=
  ∃ ax its news, xv = .ref ax ∧ A.handled = none ∧ Fr h₀ L s₁.heap m ∧ News h₀ L s₁.heap news ∧ SrcTu h₀ ax its news ∧ its.size ≤ sizeLine ∧
    ∀ s₂ : Shared, (∃ h, s₂ = { s₁ with heap := h }) → CompRest prog w A h₀ L m env elt x scope cl s₂ (SrcTu h₀ ax its) (fun i v => its[i]? = some v) (Fin s₂) its.size 0 [] news
theorem CompSrcTu.mk {elt : PySem.Expr} {x : Str} {scope : Scope} {cl : List (Str × Addr)} {Fin : Shared → List Value → List (Addr × Obj) → Prop} {ax : Addr} {its : Array Value} {news : List (Addr × Obj)} {s₁ : Shared}
    (hh : A.handled = none) (F : Fr h₀ L s₁.heap m) (N : News h₀ L s₁.heap news) (S : SrcTu h₀ ax its news) (hsz : its.size ≤ sizeLine)
    (h : ∀ g, CompRest prog w A h₀ L m env elt x scope cl { s₁ with heap := g } (SrcTu h₀ ax its) (fun i v => its[i]? = some v) (Fin { s₁ with heap := g }) its.size 0 [] news) :
    CompSrcTu prog w A h₀ L m env elt x scope cl Fin (.ref ax) s₁ := ⟨ax, its, news, rfl, hh, F, N, S, hsz, fun _ ⟨g, e⟩ => e ▸ h g⟩
theorem ListComp_UT {elt iter : PySem.Expr} {x : Str} {px : Pos} {scope : Scope} {cl : List (Str × Addr)} {pos : Pos} {Q : Value → Shared → Prop} (F₀ : Fr h₀ L s.heap m)
    (hclos : closureFor scope env = pure cl) (hcell : ∀ y ∈ scope.names, y.2 ≠ .cell) (hkind : scope.kind = .function)
    (hnames : ∀ y ∈ scope.names, y.2 = .local → scope.names.lookup y.1 = some .local) (hx : scope.names.lookup x = some .local)
    (h : wpAny (model prog w) A (eval iter env) (CompSrcTu prog w A h₀ L m env elt x scope cl (fun s₂ => FinE h₀ L m s₂ Q)) E s)
    (hs : ∀ x, foldedSetIterable iter env x = pure x := by intro _; rfl) :
    wpAny (model prog w) A (eval (.ListComp elt [⟨.Name x px, iter, [], 0⟩] scope pos) env) Q E s := by
  rw [eval_ListComp]
  refine wpAny_comprehension_free (use := none) rfl hs hclos hkind hnames (wpAny_mono h (fun xv s₁ h₁ => ?_) fun _ _ e => e)
  obtain ⟨ax, its, news, rfl, hh, F, N, S, hsz, R⟩ := h₁
  have hl := S.tup F.keep N
  have hlt : ax < s₁.heap.objs.size := by obtain ⟨_, e, _⟩ := hl; exact Heap.lt_size e
  refine wpAny_pyIter_tuple hl ?_
  have up : ∀ b o, s₁.heap.get? b = some o → (s₁.heap.push { cls := .type "tuple_iterator", data := .fields #[.ref ax, .int 0 0] }).get? b = some o := fun b o e => Heap.get?_push_of_some _ e
  refine block_U (Walks.tuple hh s₁.heap.objs.size ax (Nat.ne_of_lt hlt) its) hsz (fun i h st => by obtain ⟨o, e, _⟩ := st.1; exact ⟨o, e⟩) tup_st hcell hkind hx ⟨⟨_, Heap.get?_push_size _ rfl, rfl, rfl⟩, hl.at (up ax)⟩ (fun b hb => ?_)
    (F.keeps up) (N.grown up) (Nat.ne_of_lt F.ns.lt) (next_is_new F) (fun p hp => Nat.ne_of_lt (Heap.lt_size (N p hp).1)) S (R _ ⟨_, rfl⟩) ?_
  · show b < (s₁.heap.push _).objs.size
    rw [Heap.size_push]
    rcases List.mem_cons.mp hb with rfl | hb
    · exact Nat.lt_succ_self _
    · rw [List.mem_singleton.mp hb]; exact Nat.lt_succ_of_lt hlt
  · intro D C h tk m' ys news' F' N' o1 hn hC₀ hD₀ hCL hDL hCD offC fin
    refine ⟨m', hn, fun h'' hs'' => fin D h'' tk (F'.change hs'' hCL hC₀) (fun p hp => ?_) o1⟩
    refine ⟨hs''.extBut _ _ ?_ (N' p hp).1, (N' p hp).2⟩
    rcases List.mem_cons.mp hp with rfl | hp
    · exact Ne.symm hCD
    · exact offC p hp
end
section
variable {prog : Program} {w : World} {A : Around} {E : Value → Shared → Prop} {s : Shared} {K : Frag} {h₀ : Heap} {L a : Addr} {m : Str → Option Value} {x : Str} {t : Tok} {n : Nat} {es : Array DictEntry}
theorem topMeth_K {pl : Sem Bool} {Q : Value × List Value → Shared → Prop} (F : Fr h₀ L s.heap m) (X₀ : K.In h₀) (hl : K.lookup a = some ⟨.type "dict", none, .dict es n, #[]⟩) (hk : KeysLit w.params es.toList) (h : Q (.builtin "dict.get", [.ref a]) s) : wpAny (model prog w) A (getMethod (.ref a) "get" pl) Q E s := by
  have hm := mapOf_K (prog := prog) (w := w) (X₀.keeps F.keep) hl hk
  exact getMethod_builtin hm.typeIs PySem.F.plainAttrs_dict PySem.F.slot_dict_get PySem.F.type_dict_get hm.noDict h
theorem topGet2_K {r : Option Value} {dflt : Value} {Q : Value → Shared → Prop} (F : Fr h₀ L s.heap m) (X₀ : K.In h₀) (hl : K.lookup a = some ⟨.type "dict", none, .dict es n, #[]⟩) (hk : KeysLit w.params es.toList) (e : nsIn K a x = some r) (lo : (a == sysModules) = false)
    (h : Q (r.getD dflt) { s with toks := s.toks + 1 }) : wpAny (model prog w) A (call (.builtin "dict.get") [.ref a, .str x t, dflt]) Q E s := by
  have hm := mapOf_K (prog := prog) (X₀.keeps F.keep) hl hk
  exact call_meetsIn PySem.F.slot_dict_get hm.typeIs PySem.F.entry_dict_get (PySem.F.args_dict_get_3 _ _ _) (meets_dict_get_default (PySem.strKind prog w) a (strKind_is prog w x t) lo dflt) ⟨_, hm, by rw [find_K hl e]; exact h⟩
theorem topMeth_L {pl : Sem Bool} {Q : Value × List Value → Shared → Prop} (F : Fr h₀ L s.heap m) (X₀ : K.In h₀) (hl : K.lookup a = some ⟨.type "dict", none, .dict (entK K a) (cntK K a), #[]⟩) (hk : (entK K a).toList = (entK K a).toList.map (relit w.params)) (h : Q (.builtin "dict.get", [.ref a]) s) : wpAny (model prog w) A (getMethod (.ref a) "get" pl) Q E s := topMeth_K F X₀ hl (keysLit hk) h
theorem topGet2_L {r : Option Value} {dflt : Value} {Q : Value → Shared → Prop} (F : Fr h₀ L s.heap m) (X₀ : K.In h₀) (hl : K.lookup a = some ⟨.type "dict", none, .dict (entK K a) (cntK K a), #[]⟩) (hk : (entK K a).toList = (entK K a).toList.map (relit w.params)) (e : nsIn K a x = some r) (lo : (a == sysModules) = false)
    (h : Q (r.getD dflt) { s with toks := s.toks + 1 }) : wpAny (model prog w) A (call (.builtin "dict.get") [.ref a, .str x t, dflt]) Q E s := topGet2_K F X₀ hl (keysLit hk) e lo h
end
end Mine
end
namespace Mine
theorem top_is : PySem.Challenge.rw_pq0493_01.Holds → True := by
  intro _
  trivial
set_option maxHeartbeats 8000000 in
theorem fill_it : PySem.Challenge.rw_pq0493_01.Holds → (∀ w : World, ∀ h : Heap, (hd.heap_39 w.params).In h → True) := by
  k_fill
  intro _ w h X
  trivial
set_option maxRecDepth 100000
set_option maxHeartbeats 8000000
section
def PvOk (pv : Value) : Prop := pv = .none ∨ ∃ pn t, pv = .str pn t ∧ pn ∈ bNames
structure NmOk (K : Frag) (name : Str) : Prop where
  par : ∃ pv, nsIn K 555 name = some (some pv) ∧ PvOk pv
  mix : nsIn K 558 name = some none ∨ ∃ a on t, nsIn K 558 name = some (some (.ref a)) ∧ K.lookup a = some (⟨.type "tuple", none, .seq [Value.str on t].toArray, #[]⟩ : Obj) ∧ on ∈ bNames
  len : name.length ≤ 40
theorem nm_0 (w : World) : NmOk (hd.heap_39 w.params) (Str.ofString "BasicObject") := ⟨⟨_, by k_is, .inl rfl⟩, .inl (by k_is), by decide⟩
theorem nm_1 (w : World) : NmOk (hd.heap_39 w.params) (Str.ofString "Object") := ⟨⟨_, by k_is, .inr ⟨_, _, rfl, (.head _)⟩⟩, .inr ⟨_, _, _, by k_is, by k_is, (.tail _ (.tail _ (.tail _ (.tail _ (.head _)))))⟩, by decide⟩
theorem nm_2 (w : World) : NmOk (hd.heap_39 w.params) (Str.ofString "Module") := ⟨⟨_, by k_is, .inr ⟨_, _, rfl, (.tail _ (.head _))⟩⟩, .inl (by k_is), by decide⟩
theorem nm_3 (w : World) : NmOk (hd.heap_39 w.params) (Str.ofString "Class") := ⟨⟨_, by k_is, .inr ⟨_, _, rfl, (.tail _ (.tail _ (.head _)))⟩⟩, .inl (by k_is), by decide⟩
theorem nm_4 (w : World) : NmOk (hd.heap_39 w.params) (Str.ofString "Kernel") := ⟨⟨_, by k_is, .inl rfl⟩, .inl (by k_is), by decide⟩
theorem nm_5 (w : World) : NmOk (hd.heap_39 w.params) (Str.ofString "Comparable") := ⟨⟨_, by k_is, .inl rfl⟩, .inl (by k_is), by decide⟩
theorem nm_6 (w : World) : NmOk (hd.heap_39 w.params) (Str.ofString "Enumerable") := ⟨⟨_, by k_is, .inl rfl⟩, .inl (by k_is), by decide⟩
theorem nm_7 (w : World) : NmOk (hd.heap_39 w.params) (Str.ofString "NilClass") := ⟨⟨_, by k_is, .inr ⟨_, _, rfl, (.tail _ (.head _))⟩⟩, .inl (by k_is), by decide⟩
theorem nm_8 (w : World) : NmOk (hd.heap_39 w.params) (Str.ofString "TrueClass") := ⟨⟨_, by k_is, .inr ⟨_, _, rfl, (.tail _ (.head _))⟩⟩, .inl (by k_is), by decide⟩
theorem nm_9 (w : World) : NmOk (hd.heap_39 w.params) (Str.ofString "FalseClass") := ⟨⟨_, by k_is, .inr ⟨_, _, rfl, (.tail _ (.head _))⟩⟩, .inl (by k_is), by decide⟩
theorem nm_10 (w : World) : NmOk (hd.heap_39 w.params) (Str.ofString "Numeric") := ⟨⟨_, by k_is, .inr ⟨_, _, rfl, (.tail _ (.head _))⟩⟩, .inr ⟨_, _, _, by k_is, by k_is, (.tail _ (.tail _ (.tail _ (.tail _ (.tail _ (.head _))))))⟩, by decide⟩
theorem nm_11 (w : World) : NmOk (hd.heap_39 w.params) (Str.ofString "Integer") := ⟨⟨_, by k_is, .inr ⟨_, _, rfl, (.tail _ (.tail _ (.tail _ (.tail _ (.tail _ (.tail _ (.tail _ (.tail _ (.tail _ (.tail _ (.head _)))))))))))⟩⟩, .inl (by k_is), by decide⟩
theorem nm_12 (w : World) : NmOk (hd.heap_39 w.params) (Str.ofString "String") := ⟨⟨_, by k_is, .inr ⟨_, _, rfl, (.tail _ (.head _))⟩⟩, .inr ⟨_, _, _, by k_is, by k_is, (.tail _ (.tail _ (.tail _ (.tail _ (.tail _ (.head _))))))⟩, by decide⟩
theorem nm_13 (w : World) : NmOk (hd.heap_39 w.params) (Str.ofString "Symbol") := ⟨⟨_, by k_is, .inr ⟨_, _, rfl, (.tail _ (.head _))⟩⟩, .inr ⟨_, _, _, by k_is, by k_is, (.tail _ (.tail _ (.tail _ (.tail _ (.tail _ (.head _))))))⟩, by decide⟩
theorem nm_14 (w : World) : NmOk (hd.heap_39 w.params) (Str.ofString "Array") := ⟨⟨_, by k_is, .inr ⟨_, _, rfl, (.tail _ (.head _))⟩⟩, .inr ⟨_, _, _, by k_is, by k_is, (.tail _ (.tail _ (.tail _ (.tail _ (.tail _ (.tail _ (.head _)))))))⟩, by decide⟩
theorem nm_15 (w : World) : NmOk (hd.heap_39 w.params) (Str.ofString "Hash") := ⟨⟨_, by k_is, .inr ⟨_, _, rfl, (.tail _ (.head _))⟩⟩, .inr ⟨_, _, _, by k_is, by k_is, (.tail _ (.tail _ (.tail _ (.tail _ (.tail _ (.tail _ (.head _)))))))⟩, by decide⟩
theorem nm_16 (w : World) : NmOk (hd.heap_39 w.params) (Str.ofString "Range") := ⟨⟨_, by k_is, .inr ⟨_, _, rfl, (.tail _ (.head _))⟩⟩, .inr ⟨_, _, _, by k_is, by k_is, (.tail _ (.tail _ (.tail _ (.tail _ (.tail _ (.tail _ (.head _)))))))⟩, by decide⟩
theorem nm_17 (w : World) : NmOk (hd.heap_39 w.params) (Str.ofString "Proc") := ⟨⟨_, by k_is, .inr ⟨_, _, rfl, (.tail _ (.head _))⟩⟩, .inl (by k_is), by decide⟩
theorem nm_18 (w : World) : NmOk (hd.heap_39 w.params) (Str.ofString "Fiber") := ⟨⟨_, by k_is, .inr ⟨_, _, rfl, (.tail _ (.head _))⟩⟩, .inl (by k_is), by decide⟩
theorem nm_19 (w : World) : NmOk (hd.heap_39 w.params) (Str.ofString "Exception") := ⟨⟨_, by k_is, .inr ⟨_, _, rfl, (.tail _ (.head _))⟩⟩, .inl (by k_is), by decide⟩
theorem nm_20 (w : World) : NmOk (hd.heap_39 w.params) (Str.ofString "ScriptError") := ⟨⟨_, by k_is, .inr ⟨_, _, rfl, (.tail _ (.tail _ (.tail _ (.tail _ (.tail _ (.tail _ (.tail _ (.tail _ (.tail _ (.tail _ (.tail _ (.tail _ (.tail _ (.tail _ (.tail _ (.tail _ (.tail _ (.tail _ (.tail _ (.head _))))))))))))))))))))⟩⟩, .inl (by k_is), by decide⟩
theorem nm_21 (w : World) : NmOk (hd.heap_39 w.params) (Str.ofString "NotImplementedError") := ⟨⟨_, by k_is, .inr ⟨_, _, rfl, (.tail _ (.tail _ (.tail _ (.tail _ (.tail _ (.tail _ (.tail _ (.tail _ (.tail _ (.tail _ (.tail _ (.tail _ (.tail _ (.tail _ (.tail _ (.tail _ (.tail _ (.tail _ (.tail _ (.tail _ (.head _)))))))))))))))))))))⟩⟩, .inl (by k_is), by decide⟩
theorem nm_22 (w : World) : NmOk (hd.heap_39 w.params) (Str.ofString "SystemStackError") := ⟨⟨_, by k_is, .inr ⟨_, _, rfl, (.tail _ (.tail _ (.tail _ (.tail _ (.tail _ (.tail _ (.tail _ (.tail _ (.tail _ (.tail _ (.tail _ (.tail _ (.tail _ (.tail _ (.tail _ (.tail _ (.tail _ (.tail _ (.tail _ (.head _))))))))))))))))))))⟩⟩, .inl (by k_is), by decide⟩
theorem nm_23 (w : World) : NmOk (hd.heap_39 w.params) (Str.ofString "StandardError") := ⟨⟨_, by k_is, .inr ⟨_, _, rfl, (.tail _ (.tail _ (.tail _ (.tail _ (.tail _ (.tail _ (.tail _ (.tail _ (.tail _ (.tail _ (.tail _ (.tail _ (.tail _ (.tail _ (.tail _ (.tail _ (.tail _ (.tail _ (.tail _ (.head _))))))))))))))))))))⟩⟩, .inl (by k_is), by decide⟩
theorem nm_24 (w : World) : NmOk (hd.heap_39 w.params) (Str.ofString "ArgumentError") := ⟨⟨_, by k_is, .inr ⟨_, _, rfl, (.tail _ (.tail _ (.tail _ (.tail _ (.tail _ (.tail _ (.tail _ (.tail _ (.tail _ (.tail _ (.tail _ (.tail _ (.tail _ (.tail _ (.tail _ (.tail _ (.tail _ (.tail _ (.tail _ (.tail _ (.tail _ (.tail _ (.tail _ (.head _))))))))))))))))))))))))⟩⟩, .inl (by k_is), by decide⟩
theorem nm_25 (w : World) : NmOk (hd.heap_39 w.params) (Str.ofString "UncaughtThrowError") := ⟨⟨_, by k_is, .inr ⟨_, _, rfl, (.tail _ (.tail _ (.tail _ (.tail _ (.tail _ (.tail _ (.tail _ (.tail _ (.tail _ (.tail _ (.tail _ (.tail _ (.tail _ (.tail _ (.tail _ (.tail _ (.tail _ (.tail _ (.tail _ (.tail _ (.tail _ (.tail _ (.tail _ (.tail _ (.head _)))))))))))))))))))))))))⟩⟩, .inl (by k_is), by decide⟩
theorem nm_26 (w : World) : NmOk (hd.heap_39 w.params) (Str.ofString "FiberError") := ⟨⟨_, by k_is, .inr ⟨_, _, rfl, (.tail _ (.tail _ (.tail _ (.tail _ (.tail _ (.tail _ (.tail _ (.tail _ (.tail _ (.tail _ (.tail _ (.tail _ (.tail _ (.tail _ (.tail _ (.tail _ (.tail _ (.tail _ (.tail _ (.tail _ (.tail _ (.tail _ (.tail _ (.head _))))))))))))))))))))))))⟩⟩, .inl (by k_is), by decide⟩
theorem nm_27 (w : World) : NmOk (hd.heap_39 w.params) (Str.ofString "IndexError") := ⟨⟨_, by k_is, .inr ⟨_, _, rfl, (.tail _ (.tail _ (.tail _ (.tail _ (.tail _ (.tail _ (.tail _ (.tail _ (.tail _ (.tail _ (.tail _ (.tail _ (.tail _ (.tail _ (.tail _ (.tail _ (.tail _ (.tail _ (.tail _ (.tail _ (.tail _ (.tail _ (.tail _ (.head _))))))))))))))))))))))))⟩⟩, .inl (by k_is), by decide⟩
theorem nm_28 (w : World) : NmOk (hd.heap_39 w.params) (Str.ofString "KeyError") := ⟨⟨_, by k_is, .inr ⟨_, _, rfl, (.tail _ (.tail _ (.tail _ (.tail _ (.tail _ (.tail _ (.tail _ (.tail _ (.tail _ (.tail _ (.tail _ (.tail _ (.tail _ (.tail _ (.tail _ (.tail _ (.tail _ (.tail _ (.tail _ (.tail _ (.tail _ (.tail _ (.tail _ (.tail _ (.tail _ (.tail _ (.tail _ (.head _))))))))))))))))))))))))))))⟩⟩, .inl (by k_is), by decide⟩
theorem nm_29 (w : World) : NmOk (hd.heap_39 w.params) (Str.ofString "StopIteration") := ⟨⟨_, by k_is, .inr ⟨_, _, rfl, (.tail _ (.tail _ (.tail _ (.tail _ (.tail _ (.tail _ (.tail _ (.tail _ (.tail _ (.tail _ (.tail _ (.tail _ (.tail _ (.tail _ (.tail _ (.tail _ (.tail _ (.tail _ (.tail _ (.tail _ (.tail _ (.tail _ (.tail _ (.tail _ (.tail _ (.tail _ (.tail _ (.head _))))))))))))))))))))))))))))⟩⟩, .inl (by k_is), by decide⟩
theorem nm_30 (w : World) : NmOk (hd.heap_39 w.params) (Str.ofString "LocalJumpError") := ⟨⟨_, by k_is, .inr ⟨_, _, rfl, (.tail _ (.tail _ (.tail _ (.tail _ (.tail _ (.tail _ (.tail _ (.tail _ (.tail _ (.tail _ (.tail _ (.tail _ (.tail _ (.tail _ (.tail _ (.tail _ (.tail _ (.tail _ (.tail _ (.tail _ (.tail _ (.tail _ (.tail _ (.head _))))))))))))))))))))))))⟩⟩, .inl (by k_is), by decide⟩
theorem nm_31 (w : World) : NmOk (hd.heap_39 w.params) (Str.ofString "NameError") := ⟨⟨_, by k_is, .inr ⟨_, _, rfl, (.tail _ (.tail _ (.tail _ (.tail _ (.tail _ (.tail _ (.tail _ (.tail _ (.tail _ (.tail _ (.tail _ (.tail _ (.tail _ (.tail _ (.tail _ (.tail _ (.tail _ (.tail _ (.tail _ (.tail _ (.tail _ (.tail _ (.tail _ (.head _))))))))))))))))))))))))⟩⟩, .inl (by k_is), by decide⟩
theorem nm_32 (w : World) : NmOk (hd.heap_39 w.params) (Str.ofString "NoMethodError") := ⟨⟨_, by k_is, .inr ⟨_, _, rfl, (.tail _ (.tail _ (.tail _ (.tail _ (.tail _ (.tail _ (.tail _ (.tail _ (.tail _ (.tail _ (.tail _ (.tail _ (.tail _ (.tail _ (.tail _ (.tail _ (.tail _ (.tail _ (.tail _ (.tail _ (.tail _ (.tail _ (.tail _ (.tail _ (.tail _ (.tail _ (.tail _ (.tail _ (.tail _ (.tail _ (.tail _ (.head _))))))))))))))))))))))))))))))))⟩⟩, .inl (by k_is), by decide⟩
theorem nm_33 (w : World) : NmOk (hd.heap_39 w.params) (Str.ofString "NoMatchingPatternError") := ⟨⟨_, by k_is, .inr ⟨_, _, rfl, (.tail _ (.tail _ (.tail _ (.tail _ (.tail _ (.tail _ (.tail _ (.tail _ (.tail _ (.tail _ (.tail _ (.tail _ (.tail _ (.tail _ (.tail _ (.tail _ (.tail _ (.tail _ (.tail _ (.tail _ (.tail _ (.tail _ (.tail _ (.head _))))))))))))))))))))))))⟩⟩, .inl (by k_is), by decide⟩
theorem nm_34 (w : World) : NmOk (hd.heap_39 w.params) (Str.ofString "NoMatchingPatternKeyError") := ⟨⟨_, by k_is, .inr ⟨_, _, rfl, (.tail _ (.tail _ (.tail _ (.tail _ (.tail _ (.tail _ (.tail _ (.tail _ (.tail _ (.tail _ (.tail _ (.tail _ (.tail _ (.tail _ (.tail _ (.tail _ (.tail _ (.tail _ (.tail _ (.tail _ (.tail _ (.tail _ (.tail _ (.tail _ (.tail _ (.tail _ (.tail _ (.tail _ (.tail _ (.tail _ (.tail _ (.tail _ (.tail _ (.head _))))))))))))))))))))))))))))))))))⟩⟩, .inl (by k_is), by decide⟩
theorem nm_35 (w : World) : NmOk (hd.heap_39 w.params) (Str.ofString "RangeError") := ⟨⟨_, by k_is, .inr ⟨_, _, rfl, (.tail _ (.tail _ (.tail _ (.tail _ (.tail _ (.tail _ (.tail _ (.tail _ (.tail _ (.tail _ (.tail _ (.tail _ (.tail _ (.tail _ (.tail _ (.tail _ (.tail _ (.tail _ (.tail _ (.tail _ (.tail _ (.tail _ (.tail _ (.head _))))))))))))))))))))))))⟩⟩, .inl (by k_is), by decide⟩
theorem nm_36 (w : World) : NmOk (hd.heap_39 w.params) (Str.ofString "RuntimeError") := ⟨⟨_, by k_is, .inr ⟨_, _, rfl, (.tail _ (.tail _ (.tail _ (.tail _ (.tail _ (.tail _ (.tail _ (.tail _ (.tail _ (.tail _ (.tail _ (.tail _ (.tail _ (.tail _ (.tail _ (.tail _ (.tail _ (.tail _ (.tail _ (.tail _ (.tail _ (.tail _ (.tail _ (.head _))))))))))))))))))))))))⟩⟩, .inl (by k_is), by decide⟩
theorem nm_37 (w : World) : NmOk (hd.heap_39 w.params) (Str.ofString "FrozenError") := ⟨⟨_, by k_is, .inr ⟨_, _, rfl, (.tail _ (.tail _ (.tail _ (.tail _ (.tail _ (.tail _ (.tail _ (.tail _ (.tail _ (.tail _ (.tail _ (.tail _ (.tail _ (.tail _ (.tail _ (.tail _ (.tail _ (.tail _ (.tail _ (.tail _ (.tail _ (.tail _ (.tail _ (.tail _ (.tail _ (.tail _ (.tail _ (.tail _ (.tail _ (.tail _ (.tail _ (.tail _ (.tail _ (.tail _ (.tail _ (.tail _ (.head _)))))))))))))))))))))))))))))))))))))⟩⟩, .inl (by k_is), by decide⟩
theorem nm_38 (w : World) : NmOk (hd.heap_39 w.params) (Str.ofString "TypeError") := ⟨⟨_, by k_is, .inr ⟨_, _, rfl, (.tail _ (.tail _ (.tail _ (.tail _ (.tail _ (.tail _ (.tail _ (.tail _ (.tail _ (.tail _ (.tail _ (.tail _ (.tail _ (.tail _ (.tail _ (.tail _ (.tail _ (.tail _ (.tail _ (.tail _ (.tail _ (.tail _ (.tail _ (.head _))))))))))))))))))))))))⟩⟩, .inl (by k_is), by decide⟩
theorem nm_39 (w : World) : NmOk (hd.heap_39 w.params) (Str.ofString "ZeroDivisionError") := ⟨⟨_, by k_is, .inr ⟨_, _, rfl, (.tail _ (.tail _ (.tail _ (.tail _ (.tail _ (.tail _ (.tail _ (.tail _ (.tail _ (.tail _ (.tail _ (.tail _ (.tail _ (.tail _ (.tail _ (.tail _ (.tail _ (.tail _ (.tail _ (.tail _ (.tail _ (.tail _ (.tail _ (.head _))))))))))))))))))))))))⟩⟩, .inl (by k_is), by decide⟩
theorem nm_ok (w : World) : ∀ name ∈ bNames, NmOk (hd.heap_39 w.params) name := by
  unfold bNames
  refine List.forall_mem_cons.mpr ⟨nm_0 w, ?_⟩
  refine List.forall_mem_cons.mpr ⟨nm_1 w, ?_⟩
  refine List.forall_mem_cons.mpr ⟨nm_2 w, ?_⟩
  refine List.forall_mem_cons.mpr ⟨nm_3 w, ?_⟩
  refine List.forall_mem_cons.mpr ⟨nm_4 w, ?_⟩
  refine List.forall_mem_cons.mpr ⟨nm_5 w, ?_⟩
  refine List.forall_mem_cons.mpr ⟨nm_6 w, ?_⟩
  refine List.forall_mem_cons.mpr ⟨nm_7 w, ?_⟩
  refine List.forall_mem_cons.mpr ⟨nm_8 w, ?_⟩
  refine List.forall_mem_cons.mpr ⟨nm_9 w, ?_⟩
  refine List.forall_mem_cons.mpr ⟨nm_10 w, ?_⟩
  refine List.forall_mem_cons.mpr ⟨nm_11 w, ?_⟩
  refine List.forall_mem_cons.mpr ⟨nm_12 w, ?_⟩
  refine List.forall_mem_cons.mpr ⟨nm_13 w, ?_⟩
  refine List.forall_mem_cons.mpr ⟨nm_14 w, ?_⟩
  refine List.forall_mem_cons.mpr ⟨nm_15 w, ?_⟩
  refine List.forall_mem_cons.mpr ⟨nm_16 w, ?_⟩
  refine List.forall_mem_cons.mpr ⟨nm_17 w, ?_⟩
  refine List.forall_mem_cons.mpr ⟨nm_18 w, ?_⟩
  refine List.forall_mem_cons.mpr ⟨nm_19 w, ?_⟩
  refine List.forall_mem_cons.mpr ⟨nm_20 w, ?_⟩
  refine List.forall_mem_cons.mpr ⟨nm_21 w, ?_⟩
  refine List.forall_mem_cons.mpr ⟨nm_22 w, ?_⟩
  refine List.forall_mem_cons.mpr ⟨nm_23 w, ?_⟩
  refine List.forall_mem_cons.mpr ⟨nm_24 w, ?_⟩
  refine List.forall_mem_cons.mpr ⟨nm_25 w, ?_⟩
  refine List.forall_mem_cons.mpr ⟨nm_26 w, ?_⟩
  refine List.forall_mem_cons.mpr ⟨nm_27 w, ?_⟩
  refine List.forall_mem_cons.mpr ⟨nm_28 w, ?_⟩
  refine List.forall_mem_cons.mpr ⟨nm_29 w, ?_⟩
  refine List.forall_mem_cons.mpr ⟨nm_30 w, ?_⟩
  refine List.forall_mem_cons.mpr ⟨nm_31 w, ?_⟩
  refine List.forall_mem_cons.mpr ⟨nm_32 w, ?_⟩
  refine List.forall_mem_cons.mpr ⟨nm_33 w, ?_⟩
  refine List.forall_mem_cons.mpr ⟨nm_34 w, ?_⟩
  refine List.forall_mem_cons.mpr ⟨nm_35 w, ?_⟩
  refine List.forall_mem_cons.mpr ⟨nm_36 w, ?_⟩
  refine List.forall_mem_cons.mpr ⟨nm_37 w, ?_⟩
  refine List.forall_mem_cons.mpr ⟨nm_38 w, ?_⟩
  refine List.forall_mem_cons.mpr ⟨nm_39 w, ?_⟩
  exact List.forall_mem_nil _
end
theorem lines_1 : True := by
  k_with "room" => (first | ((with_reducible apply UL.dfin); (focus (k_extra "ul"; done)); (focus with_reducible assumption); (focus exact rfl)) | ((with_reducible apply UL.dfin4); (focus (k_extra "ul"; done)); (focus with_reducible assumption); (focus exact rfl)) | ((with_reducible apply UL.dfin5); (focus (k_extra "ul"; done)); (focus with_reducible assumption); (focus exact rfl)) | ((with_reducible apply UL.dfin6); (focus (k_extra "ul"; done)); (focus with_reducible assumption); (focus exact rfl)) | k_units | ((simp +zetaDelta only [depth_under_make, depth_under_kw, depth_in1, depth_deeper, depth_caller]); lia))
  k_with "units" => (first | ((with_reducible apply UL.fin); (focus (k_extra "ul"; done)); (focus with_reducible assumption); (focus exact rfl)) | ((with_reducible apply UL.fin4); (focus (k_extra "ul"; done)); (focus with_reducible assumption); (focus exact rfl)) | ((with_reducible apply UL.fin5); (focus (k_extra "ul"; done)); (focus with_reducible assumption); (focus exact rfl)) | ((with_reducible apply UL.fin6); (focus (k_extra "ul"; done)); (focus with_reducible assumption); (focus exact rfl)) | k_units | ((simp +zetaDelta only [units_in1, units_deeper, Around.mark_units, units_caller]); lia))
  k_with "ul" => (repeat' (first | with_reducible apply UL.add | with_reducible apply UL.deeper | with_reducible apply UL.ddeeper | with_reducible apply UL.under | with_reducible apply UL.dunder | with_reducible apply UL.in1 | with_reducible apply UL.din1 | with_reducible apply UL.mark | with_reducible apply UL.dmark | with_reducible apply UL.here | apply Eq.refl))
  k_with "le" => first | ((with_reducible apply le_lit); (focus with_reducible assumption); (focus exact rfl)) | ((with_reducible apply le_arr); (focus with_reducible assumption); (focus exact rfl)) | ((with_reducible apply le_via); (focus with_reducible assumption); (focus with_reducible assumption); (focus exact rfl)) | ((with_reducible apply le_arv); (focus with_reducible assumption); (focus with_reducible assumption); (focus exact rfl))
  k_with "ne" => (refine neN ?_; (try dsimp only); first | with_reducible assumption | (with_reducible exact Ne.symm (by with_reducible assumption)) | (with_reducible exact Nat.ne_of_gt (by with_reducible assumption)) | (with_reducible exact Nat.ne_of_lt (by with_reducible assumption)) | (with_reducible exact Nat.ne_of_gt (lt_1 (by with_reducible assumption))) | (with_reducible exact Nat.ne_of_lt (lt_1 (by with_reducible assumption))) | (with_reducible exact Nat.ne_of_gt (lt_2 (by with_reducible assumption))) | (with_reducible exact Nat.ne_of_lt (lt_2 (by with_reducible assumption))) | (with_reducible exact Nat.ne_of_gt (lt_3 (by with_reducible assumption))) | (with_reducible exact Nat.ne_of_lt (lt_3 (by with_reducible assumption))) | (with_reducible exact Nat.ne_of_gt (lt_4 (by with_reducible assumption))) | (with_reducible exact Nat.ne_of_lt (lt_4 (by with_reducible assumption))) | (with_reducible exact Nat.ne_of_gt (lt_5 (by with_reducible assumption))) | (with_reducible exact Nat.ne_of_lt (lt_5 (by with_reducible assumption))) | (with_reducible exact Nat.ne_of_gt (lt_6 (by with_reducible assumption))) | (with_reducible exact Nat.ne_of_lt (lt_6 (by with_reducible assumption))) | lia)
  k_with "tlp" => first | ((with_reducible apply Tl.cons); k_extra "tlp") | with_reducible exact Tl.here
  k_with "p0" => first | decide | lia | (simp only [List.length_append, List.length_cons, List.length_nil]; lia) | (simp only [List.size_toArray, decide_eq_true_eq, decide_eq_false_iff_not, ge_iff_le, gt_iff_lt, Int.not_lt, Int.not_le] at *; lia) | kst_p
  k_with "p1" => first | k_extra "le" | (simp only [List.size_toArray]; lia) | decide | ((have hil9 := IntsAre.length (by assumption)); simp only [List.size_toArray] at *; lia) | lia | (simp only [List.size_toArray] at *; lia) | kst_p1
  k_with "p2" => first | with_reducible assumption | with_reducible exact Ext.refl | with_reducible exact Ext.appl | with_reducible exact Ext.appr | ((with_reducible refine Ext.cons ?_); k_extra "p2") | ((with_reducible refine Ext.app ?_); k_extra "p2") | (refine Ext.trans ?_ (by with_reducible assumption); k_extra "p2")
  k_with "pm" => first | with_reducible assumption | (with_reducible refine Ext.mem (by with_reducible assumption) ?_; k_extra "pm") | (with_reducible refine List.mem_append_right _ ?_; k_extra "mem")
  k_with "mem" => first | with_reducible exact List.mem_cons_self | (with_reducible refine List.mem_cons_of_mem _ ?_; k_extra "mem") | k_extra "pm"
  k_with "all" => first | ((with_reducible refine Ext.consL ?_ ?_); (focus k_extra "mem"); (focus k_extra "all")) | (with_reducible exact Ext.appl) | ((with_reducible refine Ext.appL ?_ ?_); (focus k_extra "all"); (focus k_extra "all")) | k_extra "p2"
  k_with "offs" => first | with_reducible assumption | (with_reducible exact off_join (by with_reducible assumption) (by with_reducible assumption))
  k_with "pick" => first | with_reducible exact Pick.head | ((with_reducible apply Pick.tail); k_extra "pick")
  k_with "box" => first | with_reducible assumption | (refine BoxOk.mono (by with_reducible assumption) (by k_extra "p2") (by lia))
  k_with "sg" => first | with_reducible assumption | (refine SgOk.mono (by with_reducible assumption) (by lia))
  k_with "size" => first | k_extra "le" | (simp only [List.size_toArray, Array.size_push, List.length_append, List.length_cons, List.length_nil, PySem.sizeLine_eq]; lia)
  k_with "spl" => first | with_reducible exact Spl.app | ((with_reducible apply Spl.cons); k_extra "spl") | with_reducible exact Spl.nil
  k_with "inv" => first | with_reducible assumption | ((refine And.intro ?_ ?_) <;> k_extra "inv") | exact True.intro | (with_reducible exact off_appR (by with_reducible assumption))
  k_with "pc" => first | k_extra "le" | lia | decide | exact Nat.le_trans (Nat.le_of_eq (All2.len (by with_reducible assumption))) (by lia)
  k_with "fm" => first | ((with_reducible show slicePick _ (some _) (some _) _ = _); exact pick_run (by lia) (by lia)) | ((with_reducible show slicePick _ none (some _) _ = _); exact pick_upto (by lia)) | ((with_reducible show slicePick _ (some _) none _ = _); exact pick_from (by lia)) | exact pick_run (by lia) (by lia) | exact pick_upto (by lia) | exact pick_from (by lia)
  k_with "af" => (refine @item_led _ _ _ _ _ _ _ _ _ _ _ _ _ _ _ _ (by k_asm) (by k_mem) (by first | decide | lia) (by ((try simp only [List.length_append, List.length_cons, List.length_nil]); lia)) (by ((try simp only [List.length_append, List.length_cons, List.length_nil]); lia)) ?_ (by with_unfolding_all rfl); k_whole; intro _ _)
  k_with "wst" => first | with_reducible assumption | (refine WSt.mono (by with_reducible assumption) (by k_extra "p2") (by lia))
  k_with "vdm" => first | with_reducible assumption | (refine VD.mono (by k_extra "p2") (by with_reducible assumption))
  k_with "fvm" => first | with_reducible assumption | (refine FVAt.mono (by k_extra "p2") (by with_reducible assumption))
  k_with "oe" => (try ((with_reducible rename OffAll _ _ => oe9); (dsimp only [OffAll] at oe9); (try simp only [and_true] at oe9); (repeat (obtain ⟨_, oe9⟩ := oe9)); (revert oe9; intro _)))
  k_with "nn" => (try simp only [List.cons_append, List.nil_append] at ‹News _ _ _ _›)
  k_with "lt1" => ((have l9 := l1); (replace l1 := allLt_of l1); (dsimp only [AllLt] at l1); (try simp only [and_true] at l1); (first | ((have hot9 := tl_off l9 (by k_extra "tlp")); (clear l9); (revert hot9; intro _)) | clear l9))
  k_with "nd" => (try dsimp only at ‹News _ _ _ _›)
  k_with "getx" => first | with_reducible assumption | exact WK.made (by with_reducible assumption) | exact WK.nat (by with_reducible assumption) | exact WK.pre (by with_reducible assumption) | exact WK.rdy (by with_reducible assumption)
  k_with "enterC" => (refine @code_defL _ _ _ _ _ _ _ _ _ _ _ _ _ _ _ _ _ _ _ _ _ _ _ _ _ _ _ _ _ _ _ _ _ _ _ _ _ (by exact rfl) (by exact rfl) (by assumption) (by k_asm) (by k_asm) (by k_asm) (by k_asm) (by k_asm) (by k_is) (by k_is) (by ktr_room) (by exact BindsTo.of_eq rfl) (by exact locs rfl) ?_ (by exact rfl) (by exact rfl) (by exact rfl) (by decide); k_whole; intro _ _ _ _; (set_option tactic.hygienic false in intro _ _ _ _ _ _ _); intro _ _ _ _ _; (try dsimp only))
  k_with "enterT" => (refine @code_defL _ _ _ _ _ _ _ _ _ _ _ _ _ _ _ _ _ _ _ _ _ _ _ _ _ _ _ _ _ _ _ _ _ _ _ _ _ (by exact rfl) (by exact rfl) (by first | exact rfl | assumption) (by k_asm) (by k_asm) (by k_asm) (by k_asm) (by k_asm) (by k_is) (by k_is) (by ktr_room) (by first | exact BindsTo.of_eq rfl | exact binds_K (by k_in) rfl (by k_is) rfl rfl rfl) (by exact locs rfl) ?_ (by exact rfl) (by exact rfl) (by exact rfl) (by decide); k_whole; intro _ _ _ _; (set_option tactic.hygienic false in intro _ _ _ _ _ _ _); intro _ _ _ _ _; (try dsimp only))
  k_with "cb" => (refine @call_cls _ _ _ _ _ _ _ _ _ _ _ _ _ _ _ (by k_asm) (by k_asm) (by k_asm) (by k_is) (by k_is) (by k_is) ?_; k_whole; intro _ _ _ _ _ l1 l2; (first | k_lt l1 | (revert l1; intro _)); (first | (k_lt2 l2; revert l2; intro _) | (revert l2; intro _)); (try k_sweep); k_extra "enterT")
  k_with "close" => wrow_close
  k_with "steps" => repeat' (first | ((fail_if_success fail_if_success k_unfold); (refine foldS ?_); (set_option tactic.hygienic false in intro _); k_unfold) | (k_end; k_extra "close") | ((fail_if_success fail_if_success k_fold); (first | (with_reducible refine @foldQe _ _ _ _ _ _ _ ?_) | (with_reducible refine @foldQs _ _ _ _ _ _ _ ?_) | (with_reducible refine @foldQx _ _ _ _ _ _ _ ?_)); (set_option tactic.hygienic false in intro _)) | walk1 | (dsimp only; walk1) | (leave1; walk_say "STEP leave1"; try dsimp only) | fail "no step")
  k_with "own call builtin:len" => (k_here; (with_reducible show wpAny _ _ (call (Value.builtin "len") [Value.ref _]) _ _ _); k_dflt (refine @len_list _ _ _ _ _ _ _ _ (News.isList (by k_asm) (by k_mem)) (by k_extra "p1") ?_; k_whole))
  k_with "own subscriptTail" => (k_here; (with_reducible show wpAny _ _ (subscriptTail _ _ (Value.ref _) (Value.int _ _)) _ _ _); k_dflt (refine @item_anyK _ _ _ _ _ _ _ _ _ _ _ _ _ (News.isList (by k_asm) (by k_mem)) (by with_reducible assumption) (by k_extra "p0") (by k_extra "p0") (by k_extra "p0") ?_ (by with_unfolding_all rfl); k_whole); intro _)
  k_with "own setItem ref int" => (k_here; k_dflt (refine @set_K _ _ _ _ _ _ _ _ _ _ _ _ _ _ _ _ _ _ (by k_asm) (by k_asm) (by k_upd) (by k_extra "p0") (by k_extra "p0") (by k_extra "p0") (by first | exact set_1 | exact set_2 | exact rfl) ?_;  k_whole); intro _ _ _; (try k_sweep))
  k_with "own call ref" => (k_here; (with_reducible show wpAny _ _ (call (Value.ref 860) [_, _]) _ _ _); k_dflt (refine @take_use _ _ _ _ _ _ _ _ _ _ _ _ _ _ _ _ _ _ _ _ _ _ _ _ _ _ _ _ _ _ _ (by k_asm) (by k_asm) (by k_asm) (by k_asm) (by first | exact rfl | assumption) (by ktr_room) (by ktr_units) (by k_asm) (by k_extra "pick") (by k_extra "box") (by k_extra "p2") (by k_all) (by decide) (by decide) ?_); intro _ _ _ _ _ _ _ _ _ _; (try dsimp only); (try k_sweep))
  k_with "own subscriptTail" => (k_here; (with_reducible show wpAny _ _ (subscriptTail _ (Expr.Name _ _) (Value.ref _) (Value.int _ _)) _ _ _); k_dflt (refine @item_pickS _ _ _ _ _ _ _ _ _ _ _ _ (News.isList (by k_asm) (by k_mem)) (by (intro _ hv; simp only [List.mem_cons, List.not_mem_nil, or_false] at hv; rcases hv with rfl | rfl | rfl <;> exact ⟨_, _, rfl, by decide⟩)) (by k_extra "p0") (by k_extra "p0") (by k_extra "p0") ?_ (by with_unfolding_all rfl); k_whole); intro _ _ _)
  k_with "own subscriptTail" => (k_here; (with_reducible show wpAny _ _ (subscriptTail _ _ (Value.ref _) (Value.int (-1) _)) _ _ _); k_dflt (refine @item_last _ _ _ _ _ _ _ _ _ _ _ _ (News.isList (by k_asm) (by k_mem)) ?_ (by with_unfolding_all rfl); k_whole))
  k_with "own call ref" => (k_here; (with_reducible show wpAny _ _ (call (Value.ref 867) [_, _]) _ _ _); k_dflt (refine @name_use _ _ _ _ _ _ _ _ _ _ _ _ _ _ _ _ _ _ _ _ _ _ _ _ _ _ _ _ _ _ _ _ (by k_asm) (by k_asm) (by k_asm) (by k_asm) (by first | exact rfl | assumption) (by ktr_room) (by ktr_units) (by k_asm) (by k_extra "pick") (by k_extra "pick") (by k_extra "box") (by k_extra "sg") (by k_extra "p2") (by (try dsimp only); lia) (by k_all) (by k_all) ?_); intro _ _ _ _ _ _ _ _ _ _ _; (try dsimp only); (try k_sweep))
  k_with "own call type:range" => (k_here; (with_reducible show wpAny _ _ (call _ [Value.int _ _]) _ _ _); k_dflt (refine @range1_rows _ _ _ _ _ _ _ _ _ _ _ _ (by k_asm) (by k_asm) ?_; k_whole); intro _ _ _ _ _ _ _ _ _; (try k_sweep))
  k_with "own pyIter ref" => (k_here; (with_reducible show wpAny _ _ (pyIter _) (fun _ _ => LoopAtV _ _ _ _ _ _ _ _ _ _ _) _ _); refine Stp.out ?_)
  k_with "own execs cons Assign cons" => (refine @wpAny_execs_cons _ _ _ _ _ _ _ _ ?_)
  k_with "own call ref" => (k_here; (with_reducible show wpAny _ _ (call (Value.ref 874) [_, _]) _ _ _); k_dflt (refine @places_use _ _ _ _ _ _ _ _ _ _ _ _ _ _ _ _ _ _ _ _ _ _ _ _ _ _ _ _ _ _ _ _ _ (by k_asm) (by k_asm) (by k_asm) (by k_asm) (by first | exact rfl | assumption) (by ktr_room) (by ktr_units) (by k_asm) (by k_extra "pick") (by k_extra "pick") (by k_extra "spl") (by k_extra "box") (by k_extra "sg") (by (try dsimp only); lia) (by k_all) (by k_all) (by k_extra "inv") ?_); intro _ _ _ _ _ _ _ _ _ _ _ _ _ _ _ _ _ _ _ _; (try dsimp only); (k_extra "oe"); (k_extra "nn"); (try k_sweep))
  k_with "own eval IfExp" => (k_here; (with_reducible rename StpIf => hstp9); clear hstp9; refine Stp.out ?_)
  k_with "own pyIter ref" => (k_here; (with_reducible show wpAny _ _ (pyIter _) (fun _ _ => TurnsAt _ _ _ _ _ _ _ _ _ _ _) _ _); refine Stp.out ?_)
  k_with "own CompSrc" => (refine Stp.out ?_)
  k_with "own SrcLP" => (refine Stp.out ?_)
  k_with "own CompSrcT" => (refine Stp.out ?_)
  k_with "own call builtin:isinstance" => (k_here; (with_reducible show wpAny _ _ (call _ [Value.str _ _, Value.type "tuple"]) _ _ _); refine @IsiPair.str_tuple _ _ _ _ _ _ _ _ ?_)
  k_with "own call builtin:isinstance" => (k_here; (with_reducible show wpAny _ _ (call _ [Value.ref _, Value.type "tuple"]) _ _ _); k_dflt (refine @IsiPair.isTuple_tuple _ _ _ _ _ _ _ _ _ (led_tuple (by k_asm) (by k_mem)) (fun _ _ e => e) ?_; k_whole))
  k_with "own call type:list" => (k_here; (with_reducible show wpAny _ _ (call (Value.type _) [Value.ref _]) _ _ _); k_dflt (refine @kup_listOfT _ _ _ _ _ _ _ _ _ _ _ _ _ _ (by k_asm) (by k_asm) (by k_mem) (by exact rfl) ?_ (by decide)); intro _ _ _ _ _ l1; (first | k_lt l1 | (revert l1; intro _)); (try k_sweep))
  k_with "own call type:list" => (k_here; (with_reducible show wpAny _ _ (call (Value.type _) [Value.ref _]) _ _ _); k_dflt (refine @copy_led _ _ _ _ _ _ _ _ _ _ _ _ _ (by k_asm) (by k_asm) (by k_mem) (by size_fits) ?_); intro _ _ _ _ _ l1; (first | k_lt l1 | (revert l1; intro _)); (try k_sweep))
  k_with "own compareOp NotIn str ref" => (k_here; (with_reducible show wpAny _ _ (compareOp _ _ (Value.ref 74)) _ _ _); k_dflt (refine @topNotIn_L _ _ _ _ _ _ _ _ _ _ _ _ _ _ (by k_asm) (by k_asm) (by kernel_rfl!) (by kernel_rfl!) (by k_is) (by decide) ?_))
  k_with "own subscriptTail Name Name ref str" => (k_here; (with_reducible show wpAny _ _ (subscriptTail _ _ (Value.ref 74) (Value.str _ _)) _ _ _); k_dflt (refine topItem_L (by k_asm) (by k_asm) (by kernel_rfl!) (by kernel_rfl!) (by k_is) ?_))
  k_with "own call type:tuple" => (k_here; (with_reducible show wpAny _ _ (call _ [Value.ref _]) _ _ _); k_dflt (refine @call_tuple_same _ _ _ _ _ _ _ _ (led_tuple (by k_asm) (by k_mem)) ?_; k_whole))
  k_with "own call ref" => (k_here; (with_reducible show wpAny _ _ (call (Value.ref 198) [_, _, _, _, _]) _ _ _); k_dflt (refine @par_use _ _ _ _ _ _ _ _ _ _ _ _ _ _ _ _ _ _ _ _ _ _ _ _ _ _ _ _ _ _ _ _ _ _ _ _ _ (by k_asm) (by k_asm) (by k_asm) (by k_asm) (by first | exact rfl | assumption) (by ktr_room) (by ktr_units) (by k_asm) (by k_extra "spl") (by k_extra "inv") (by k_mem) (by k_mem) (by k_mem) (by first | k_extra "le" | lia | decide | size_fits) (by first | k_extra "le" | lia | decide | size_fits) (by first | k_extra "le" | lia | decide | size_fits) ?_); intro _ _ _ _ _ _ _ _ _; (try dsimp only); (k_extra "oe"); (k_extra "nn"); (try k_sweep))
  k_with "own call ref" => (k_here; (with_reducible show wpAny _ _ (call (Value.ref 166) [_, _]) _ _ _); k_dflt (refine @node_use _ _ _ _ _ _ _ _ _ _ _ _ _ _ _ _ _ _ _ _ _ _ _ _ _ _ _ _ (by k_asm) (by k_asm) (by k_asm) (by k_asm) (by first | exact rfl | assumption) (by ktr_room) (by ktr_units) (by k_asm) (by k_extra "spl") (by k_extra "inv") (by k_mem) ?_); intro _ _ _ _ _ _ _ _; (try dsimp only); (k_extra "oe"); (k_extra "nn"); (try k_sweep))
  k_with "own call builtin:list.extend" => (k_here; (with_reducible show wpAny _ _ (call (Value.builtin _) [Value.ref _, Value.ref _]) _ _ _); k_dflt (refine @extend_use _ _ _ _ _ _ _ _ _ _ _ _ _ _ _ _ _ (by k_asm) (by k_asm) (by k_mem) (by k_updF) (by k_extra "pc") (by k_extra "pc") ?_; k_whole); intro _ _ _ _; (k_extra "nd"); (try k_sweep))
  k_with "own exec If" => (k_here; (with_reducible rename StpIf => hstp9); clear hstp9; refine Stp.out ?_)
  k_with "own binaryOp Add ref ref" => (k_here; k_dflt (refine @add_led _ _ _ _ _ _ _ _ _ _ _ _ _ _ _ _ (by k_asm) (by k_asm) (by k_mem) (by k_mem) (by size_fits) ?_); intro _ _ _ _ l1; (first | k_lt l1 | (revert l1; intro _)); (try k_sweep))
  k_with "own exec For" => (k_here; (with_reducible show wpAny _ _ (exec (Stmt.For _ (Expr.BinOp _ _ _ _) _ _ _) _) _ _ _); k_dflt (refine For_turns (by k_asm) ?_; k_whole))
  k_with "own truthy str" => (k_here; k_dflt (refine @PySem.P.truthy_str _ _ _ _ _ _ _ _ (by lia) ?_; k_whole))
  k_with "own binaryOp Mult ref int" => (k_here; k_dflt (refine @mul_led _ _ _ _ _ _ _ _ _ _ _ _ _ _ (by k_asm) (by k_asm) (by k_mem) (by k_extra "p0") (by k_extra "p0") ?_); intro _ _ _ _ l1; (first | k_lt l1 | (revert l1; intro _)); (try k_sweep))
  k_with "own subscriptTail Name Slice ref ref" => (k_here; k_dflt (refine @slice_led _ _ _ _ _ _ _ _ _ _ _ _ _ _ _ _ _ _ _ _ (by k_asm) (by k_asm) (by k_mem) (by kmk_part) (by kmk_part) (by k_extra "fm") ?_ (by with_unfolding_all rfl) (by kmk_pure) (by size_fits)); intro _ _ _ _ l1; (first | k_lt l1 | (revert l1; intro _)); (try k_sweep))
  k_with "own call builtin:min" => (k_here; (with_reducible show wpAny _ _ (call _ [Value.int _ _, Value.int _ _]) _ _ _); k_dflt (refine @min_led _ _ _ _ _ _ _ _ _ _ _ _ _ _ (by exact rfl) (by k_asm) (by k_asm) ?_; k_whole); intro _ _ _ _ _ _ _ _ _; (try dsimp only); (try k_sweep))
  k_with "own call type:zip" => (k_here; (with_reducible show wpAny _ _ (call _ [Value.ref _, Value.ref _]) _ _ _); k_dflt (refine @zip_led _ _ _ _ _ _ _ _ _ _ _ _ _ _ _ _ (by k_asm) (by k_asm) (by k_mem) (by k_mem) ?_; k_whole); intro _ _ _ _ _; (try dsimp only); (try k_sweep))
  k_with "own call type:list" => (k_here; (with_reducible show wpAny _ _ (call (Value.type _) [Value.ref _]) _ _ _); (with_reducible rename ZZ _ _ _ _ _ _ _ => hzz9); k_dflt (refine @listzip_led _ _ _ _ _ _ _ _ _ _ _ _ _ _ _ (by exact rfl) (by k_asm) (by k_asm) (by k_extra "spl") hzz9 (by k_extra "inv") (by first | lia | size_fits) ?_; k_whole); clear hzz9; intro _ _ _ _ _ _ _ _ _ hA9 hot9 hmo9; clear hmo9; (try simp only [List.cons_append, List.nil_append] at hot9); (have hul9 := All2.len hA9); (simp only [List.length_zip] at hul9); (revert hA9 hot9 hul9; intro _ _ _); (try dsimp only); (k_extra "oe"); (k_extra "nn"); (try k_sweep))
  k_with "own call builtin:len" => (k_here; (with_reducible show wpAny _ _ (call (Value.builtin "len") [Value.ref _]) _ _ _); k_dflt (refine @len_led _ _ _ _ _ _ _ _ _ _ _ _ (by k_asm) (by k_mem) (by first | k_extra "le" | lia | decide | size_fits) ?_; k_whole))
  k_with "own exec For" => (k_here; (with_reducible show wpAny _ _ (exec (Stmt.For (Expr.Tuple _ _ _) (Expr.Name _ _) _ _ _) _) _ _ _); k_dflt (refine For_turns (by k_asm) ?_; k_whole))
  k_with "own subscriptTail Name Slice ref ref" => (k_here; k_dflt (refine @slice_led _ _ _ _ _ _ _ _ _ _ _ _ _ _ _ _ _ _ _ _ (by k_asm) (by k_asm) (by k_mem) (by kmk_part) (by kmk_part) (by k_extra "fm") ?_ (by with_unfolding_all rfl) (by kmk_pure) (by first | (simp only [sizeLine_eq]; lia) | size_fits)); intro _ _ _ _ l1; (first | k_lt l1 | (revert l1; intro _)); (try k_sweep))
  k_with "own eval IfExp" => (k_here; (with_reducible rename StpE => hstp9); clear hstp9; refine Stp.out ?_)
  k_with "own exec For" => (k_here; (with_reducible show wpAny _ _ (exec (Stmt.For _ (Expr.Subscript _ _ _) _ _ _) _) _ _ _); k_dflt (refine For_turns (by k_asm) ?_; k_whole))
  k_with "own exec While" => (k_here; (with_reducible rename StpIf => hstp9); clear hstp9; refine Stp.out ?_)
  trivial
local macro_rules | `(tactic| ktr_room) => `(tactic| k_extra "room")
local macro_rules | `(tactic| ktr_units) => `(tactic| k_extra "units")
local macro_rules | `(tactic| k_ne) => `(tactic| k_extra "ne")
local macro_rules | `(tactic| k_mem) => `(tactic| k_extra "mem")
local macro_rules | `(tactic| k_all) => `(tactic| k_extra "offs")
local macro_rules | `(tactic| size_fits) => `(tactic| k_extra "size")
local macro_rules | `(tactic| k_lt $h:ident) => `(tactic| (have l9 := $h; replace $h := allLt_of $h; dsimp only [AllLt] at $h:ident; (try simp only [and_true] at $h:ident); (revert $h; intro _); (first | (have hot9 := tl_off l9 (by k_extra "tlp"); clear l9; (revert hot9; intro _)) | clear l9)))
local macro_rules | `(tactic| walk_at $s:str) => let t := Lean.Syntax.mkStrLit ("own " ++ s.getString); `(tactic| k_extra $t)
theorem lines_2 : True := by
  k_with "bt" => (first | (with_reducible apply bt_len) | (with_reducible apply bt_isinstance) | (with_reducible apply bt_abs) | (with_reducible apply bt_sum) | (with_reducible apply bt_min) | (with_reducible apply bt_sorted) | (with_reducible apply bt_int) | (with_reducible apply bt_str) | (with_reducible apply bt_list) | (with_reducible apply bt_tuple) | (with_reducible apply bt_range) | (with_reducible apply bt_zip) | (with_reducible apply bt_bool) | (k_dflt boot_fast))
  k_with "pu" => (repeat' (first
    | ((with_reducible apply Pu.loc); (rotate_left); (focus k_dflt (apply Eq.refl)); (focus kernel_rfl))
    | ((with_reducible apply Pu.glo); (rotate_left 2); (focus k_dflt k_is); (focus kernel_rfl); (focus k_dflt (exact Gl.mk (by k_asm) (by k_asm))))
    | ((with_reducible apply Pu.blt); (rotate_left 2); (focus k_dflt k_is); (focus k_extra "bt"); (focus kernel_rfl); (focus k_dflt (exact Gl.mk (by k_asm) (by k_asm))))
    | ((with_reducible apply Pu.cell); (focus kernel_rfl!); (focus k_dflt (exact rfl)); (focus k_dflt k_mem); (focus k_dflt k_asm))
    | (with_reducible apply Pu.int) | (with_reducible apply Pu.none) | (with_reducible apply Pu.bool) | (with_reducible apply Pu.str)
    | ((with_reducible apply PuL.cons); (focus (k_extra "pu"; fail_if_success (focus skip))); (focus (k_extra "pu"; fail_if_success (focus skip))); (focus k_dflt (exact rfl)))
    | (with_reducible apply PuL.nil)
    | (with_reducible apply Pu.bin)
    | (with_reducible apply PuT.cmp)
    | (with_reducible apply Pu.cmp)
    | (with_reducible apply Pu.sub)
    | ((with_reducible show Pu _ _ (PySem.Expr.Call (PySem.Expr.Name (Str.ofString "len") _) _ _ _) _ _); (with_reducible apply Pu.callB); (focus (k_extra "pu"; fail_if_success (focus skip))); (focus (k_extra "pu"; fail_if_success (focus skip))); (focus (k_extra "pu"; fail_if_success (focus skip))); (focus (k_extra "pu"; fail_if_success (focus skip))); (focus k_dflt (exact rfl)))
    | ((with_reducible apply Pu.attr); (focus (k_extra "pu"; fail_if_success (focus skip))); (focus k_dflt (exact Gl.mk (by k_asm) (by k_asm))); (focus k_dflt k_mem); (focus k_dflt k_mem); (focus k_dflt k_is); (focus k_dflt k_is); (focus k_dflt k_is); (focus k_dflt k_is); (focus first | k_dflt k_get | k_extra "getx"); (focus k_dflt k_handed); (focus with_unfolding_all rfl))
    | ((with_reducible apply PuT.val); (focus (k_extra "pu"; fail_if_success (focus skip))); (focus (k_extra "pu"; fail_if_success (focus skip))); (focus with_unfolding_all rfl))
    | (with_reducible apply TrV.bool) | (with_reducible apply TrV.none)
    | (with_reducible apply Op2.add) | (with_reducible apply Op2.subI) | (with_reducible apply Op2.lt) | (with_reducible apply Op2.le) | (with_reducible apply Op2.gt) | (with_reducible apply Op2.ge) | (with_reducible apply Op2.eq) | (with_reducible apply Op2.ne)
    | (with_reducible apply Op2.is0) | (with_reducible apply Op2.isI) | (with_reducible apply Op2.isS) | (with_reducible apply Op2.isR) | (with_reducible apply Op2.isB) | (with_reducible apply Op2.no0) | (with_reducible apply Op2.noI) | (with_reducible apply Op2.noS) | (with_reducible apply Op2.noR) | (with_reducible apply Op2.noB) | ((with_reducible apply Op2.isN); (focus k_dflt (exact rfl))) | ((with_reducible apply Op2.notN); (focus k_dflt (exact rfl)))
    | ((with_reducible apply Op2.mul); (focus k_dflt mul_fits)) | ((with_reducible apply Op2.mod); (focus lia))
    | ((with_reducible apply Op2.item); (focus k_dflt k_mem); (focus k_extra "p0"); (focus k_extra "p0"); (focus first | with_reducible assumption | ((with_reducible show (List.cons _ _)[_]? = some _); k_dflt (exact rfl))); (focus with_unfolding_all rfl))
    | ((with_reducible apply Op2.itemT); (focus k_dflt k_mem); (focus decide); (focus decide); (focus k_dflt (exact rfl)); (focus k_dflt (exact rfl)); (focus with_unfolding_all rfl))
    | ((with_reducible apply Op2.len); (focus k_dflt k_mem); (focus first | k_extra "le" | lia | decide | k_dflt size_fits | k_extra "p1"))
    | ((with_reducible show behindInMarks _ _ = false); kernel_rfl)))
  k_with "pg" => ((with_reducible apply Pu.glo); (rotate_left 2); (focus k_dflt k_is); (focus kernel_rfl); (focus k_dflt (exact Gl.mk (by k_asm) (by k_asm))))
  k_with "pb" => ((with_reducible apply Pu.blt); (rotate_left 2); (focus k_dflt k_is); (focus k_extra "bt"); (focus kernel_rfl); (focus k_dflt (exact Gl.mk (by k_asm) (by k_asm))))
  k_with "rE" => (k_here; (fail_if_success plain_pass); (goal_lacks PySem.Expr.IfExp PySem.Expr.ListComp PySem.Expr.BoolOp PySem.Expr.List PySem.Expr.Tuple PySem.Expr.Slice); (first | (with_reducible show wpAny _ _ (eval _ (envX _ _ _ _ _ _)) _ _ _) | (with_reducible show wpAny _ _ (eval _ (envOf _ _ _ _ _)) _ _ _) | (with_reducible show wpAny _ _ (eval _ (envOfC _ _ _ _ _)) _ _ _)); k_dflt (refine @ruE _ _ _ _ _ _ _ _ _ _ _ _ _ _ _ _ _ (by k_asm) (by k_asm) (by k_extra "pu"; fail_if_success (focus skip)) ?_); k_whole)
  k_with "rT" => (k_here; (fail_if_success plain_pass); (goal_lacks PySem.Expr.IfExp PySem.Expr.ListComp PySem.Expr.BoolOp PySem.Expr.List PySem.Expr.Tuple PySem.Expr.Slice); (first | (with_reducible show wpAny _ _ (isTrue _ (envX _ _ _ _ _ _) _) _ _ _) | (with_reducible show wpAny _ _ (isTrue _ (envOf _ _ _ _ _) _) _ _ _) | (with_reducible show wpAny _ _ (isTrue _ (envOfC _ _ _ _ _) _) _ _ _)); k_dflt (refine @ruT _ _ _ _ _ _ _ _ _ _ _ _ _ _ _ _ _ (by k_asm) (by k_asm) (by k_extra "pu"; fail_if_success (focus skip)) ?_); k_whole)
  k_with "own eval BinOp" => (goal_lacks PySem.Const.str; k_extra "rE")
  k_with "own eval Compare" => ((first | (fail_if_success (with_reducible show wpAny _ _ (eval (PySem.Expr.Compare (PySem.Expr.Call _ _ _ _) _ _ _) _) _ _ _)) | (with_reducible show wpAny _ _ (eval (PySem.Expr.Compare (PySem.Expr.Call (PySem.Expr.Name (Str.ofString "len") _) _ _ _) _ _ _) _) _ _ _)); k_extra "rE")
  k_with "own eval Subscript" => k_extra "rE"
  k_with "own eval Attribute Name" => k_extra "rE"
  k_with "own eval Attribute Subscript" => k_extra "rE"
  k_with "own isTrue Compare" => ((first | (fail_if_success (with_reducible show wpAny _ _ (isTrue (PySem.Expr.Compare (PySem.Expr.Call _ _ _ _) _ _ _) _ _) _ _ _)) | (with_reducible show wpAny _ _ (isTrue (PySem.Expr.Compare (PySem.Expr.Call (PySem.Expr.Name (Str.ofString "len") _) _ _ _) _ _ _) _ _) _ _ _)); k_extra "rT")
  k_with "own isTrue Name" => k_extra "rT"
  k_with "own eval Call" => (k_here; (fail_if_success plain_pass); (goal_lacks PySem.Expr.IfExp PySem.Expr.ListComp PySem.Expr.BoolOp PySem.Expr.List PySem.Expr.Tuple PySem.Expr.Slice); (first
    | ((first | (with_reducible show wpAny _ _ (eval (PySem.Expr.Call (PySem.Expr.Name _ _) (_ :: _) [] _) (envX _ _ _ _ _ _)) _ _ _) | (with_reducible show wpAny _ _ (eval (PySem.Expr.Call (PySem.Expr.Name _ _) (_ :: _) [] _) (envOf _ _ _ _ _)) _ _ _) | (with_reducible show wpAny _ _ (eval (PySem.Expr.Call (PySem.Expr.Name _ _) (_ :: _) [] _) (envOfC _ _ _ _ _)) _ _ _)); k_dflt (first
      | (refine @raR _ _ _ _ _ _ _ _ _ _ _ _ _ _ _ _ _ _ _ _ _ _ (by k_asm) (by k_asm) (by k_asm) (by k_extra "pg"; done) (by k_is) (by k_extra "pu"; fail_if_success (focus skip)) ?_)
      | (refine @raB _ _ _ _ _ _ _ _ _ _ _ _ _ _ _ _ _ _ _ _ _ _ (by k_asm) (by k_asm) (by k_extra "pb"; done) (by exact rfl) (by k_extra "pu"; fail_if_success (focus skip)) ?_)))
    | ((first | (with_reducible show wpAny _ _ (eval (PySem.Expr.Call (PySem.Expr.Name _ _) [] [] _) (envX _ _ _ _ _ _)) _ _ _) | (with_reducible show wpAny _ _ (eval (PySem.Expr.Call (PySem.Expr.Name _ _) [] [] _) (envOf _ _ _ _ _)) _ _ _) | (with_reducible show wpAny _ _ (eval (PySem.Expr.Call (PySem.Expr.Name _ _) [] [] _) (envOfC _ _ _ _ _)) _ _ _)); k_dflt (refine @raR0 _ _ _ _ _ _ _ _ _ _ _ _ _ _ _ _ _ _ (by k_asm) (by k_asm) (by k_asm) (by k_extra "pg"; done) (by k_is) (by exact rfl) ?_))); k_whole)
  k_with "own callWith" => (k_here; (fail_if_success plain_pass); (goal_lacks PySem.Expr.IfExp PySem.Expr.ListComp PySem.Expr.BoolOp PySem.Expr.List PySem.Expr.Tuple PySem.Expr.Slice); (first | (with_reducible show wpAny _ _ (callWith _ (Value.builtin _) _ (backTo _ (starEach _ (envX _ _ _ _ _ _))) []) _ _ _) | (with_reducible show wpAny _ _ (callWith _ (Value.builtin _) _ (backTo _ (starEach _ (envOf _ _ _ _ _))) []) _ _ _) | (with_reducible show wpAny _ _ (callWith _ (Value.builtin _) _ (backTo _ (starEach _ (envOfC _ _ _ _ _))) []) _ _ _)); k_dflt (refine @rcB _ _ _ _ _ _ _ _ _ _ _ _ _ _ _ _ _ _ _ _ _ (by k_asm) (by k_asm) (by k_extra "pu"; fail_if_success (focus skip)) (by first | with_reducible exact List.nil_append _ | with_reducible apply List.singleton_append | exact rfl) ?_); k_whole)
  k_with "own callWith ref" => (k_here; (fail_if_success plain_pass); (goal_lacks PySem.Expr.IfExp PySem.Expr.ListComp PySem.Expr.BoolOp PySem.Expr.List PySem.Expr.Tuple PySem.Expr.Slice); (first | (with_reducible show wpAny _ _ (callWith _ (Value.ref _) _ (backTo _ (starEach _ (envX _ _ _ _ _ _))) []) _ _ _) | (with_reducible show wpAny _ _ (callWith _ (Value.ref _) _ (backTo _ (starEach _ (envOf _ _ _ _ _))) []) _ _ _) | (with_reducible show wpAny _ _ (callWith _ (Value.ref _) _ (backTo _ (starEach _ (envOfC _ _ _ _ _))) []) _ _ _)); k_dflt (refine @rcR _ _ _ _ _ _ _ _ _ _ _ _ _ _ _ _ _ _ _ _ _ (by k_asm) (by k_asm) (by k_asm) (by k_is) (by k_extra "pu"; fail_if_success (focus skip)) (by first | with_reducible exact List.nil_append _ | with_reducible apply List.singleton_append | exact rfl) ?_); k_whole)
  k_with "rsA" => (k_here; (fail_if_success plain_pass); (first | (with_reducible show wpAny _ _ (execs (Stmt.Assign [PySem.Expr.Name _ _] _ _ :: _) (envX _ _ _ _ _ _)) _ _ _) | (with_reducible show wpAny _ _ (execs (Stmt.Assign [PySem.Expr.Name _ _] _ _ :: _) (envOf _ _ _ _ _)) _ _ _) | (with_reducible show wpAny _ _ (execs (Stmt.Assign [PySem.Expr.Name _ _] _ _ :: _) (envOfC _ _ _ _ _)) _ _ _)); k_dflt (refine @rsA _ _ _ _ _ _ _ _ _ _ _ _ _ _ _ _ _ _ _ _ _ (by k_asm) (by k_asm) (by goal_lacks PySem.Expr.IfExp PySem.Expr.ListComp PySem.Expr.BoolOp PySem.Expr.List PySem.Expr.Tuple PySem.Expr.Slice PySem.Const.str; k_extra "pu"; fail_if_success (focus skip)) (by kernel_rfl!) (by exact rfl) ?_); k_whole; intro _ _ _; (try k_sweep))
  k_with "own execs cons Assign cons" => k_extra "rsA"
  k_with "own execs cons Assign nil" => k_extra "rsA"
  k_with "rsR" => (k_here; (fail_if_success plain_pass); (first | (with_reducible show wpAny _ _ (execs (Stmt.Return (some _) _ :: _) (envX _ _ _ _ _ _)) _ _ _) | (with_reducible show wpAny _ _ (execs (Stmt.Return (some _) _ :: _) (envOf _ _ _ _ _)) _ _ _) | (with_reducible show wpAny _ _ (execs (Stmt.Return (some _) _ :: _) (envOfC _ _ _ _ _)) _ _ _)); k_dflt (refine @rsR _ _ _ _ _ _ _ _ _ _ _ _ _ _ _ _ _ _ _ (by k_asm) (by k_asm) (by goal_lacks PySem.Expr.IfExp PySem.Expr.ListComp PySem.Expr.BoolOp PySem.Expr.List PySem.Expr.Tuple PySem.Expr.Slice PySem.Const.str; k_extra "pu"; fail_if_success (focus skip)) ?_); k_whole)
  k_with "own execs cons Return nil" => k_extra "rsR"
  k_with "own execs cons Return cons" => k_extra "rsR"
  k_with "own storeName" => (k_here; (fail_if_success plain_pass); (first | (with_reducible show wpAny _ _ (storeName (envX _ _ _ _ _ _) _ _) _ _ _) | (with_reducible show wpAny _ _ (storeName (envOf _ _ _ _ _) _ _) _ _ _) | (with_reducible show wpAny _ _ (storeName (envOfC _ _ _ _ _) _ _) _ _ _)); k_dflt (refine @stL _ _ _ _ _ _ _ _ _ _ _ _ _ _ _ _ (by k_asm) (by k_asm) (by exact rfl) (by exact rfl) ?_); k_whole; intro _ _ _; (try k_sweep))
  trivial
theorem lines_3 : True := by
  k_with "own getAttr ref" => ((fail_if_success fail_if_success with_reducible rename Pt 1 => hg9); (k_here; k_dflt (refine @get_own _ _ _ _ _ _ _ _ _ _ _ _ _ _ _ _ _ _ _ (by k_asm) (by k_asm) (InstAt.of_news (by k_asm) (by k_mem) (by k_mem)) (by k_is) (by k_is) (by k_is) (by k_is) (by first | with_reducible assumption | exact WK.made (by with_reducible assumption) | exact WK.nat (by with_reducible assumption) | exact WK.pre (by with_reducible assumption) | exact WK.rdy (by with_reducible assumption)) (by k_handed) ?_; k_whole)))
  k_with "own getMethod ref" => ((fail_if_success fail_if_success with_reducible rename Pt 1 => hg9); (k_here; (fail_if_success (with_reducible show wpAny _ _ (getMethod (Value.ref 558) _ _) _ _ _)); k_dflt (refine @method_inst _ _ _ _ _ _ _ _ _ _ _ _ _ _ _ _ _ _ (by k_asm) (by k_asm) (InstAt.of_news (by k_asm) (by k_mem) (by k_mem)) (by k_is) (by k_is) (by k_is) (by first | exact WK.m1 (by with_reducible assumption) | exact WK.m2 (by with_reducible assumption) | exact WK.m3 (by with_reducible assumption) | exact WK.m4 (by with_reducible assumption) | exact WK.m5 (by with_reducible assumption) | exact WK.m6 (by with_reducible assumption) | exact WK.m7 (by with_reducible assumption) | exact WK.m8 (by with_reducible assumption)) ?_; k_whole)))
  k_with "own getMethod ref" => ((fail_if_success fail_if_success with_reducible rename Pt 1 => hg9); (k_here; (with_reducible show wpAny _ _ (getMethod (Value.ref _) (Str.ofString "get") _) _ _ _); (fail_if_success (with_reducible show wpAny _ _ (getMethod (Value.ref 558) _ _) _ _ _)); k_dflt (refine @kdg_method _ _ _ _ (PySem.strKind _ _) _ _ _ _ _ _ _ _ _ _ _ (by k_asm) (by k_mem) (by with_reducible assumption) ?_; k_whole)))
  k_with "own call builtin:dict.get" => ((fail_if_success fail_if_success with_reducible rename Pt 1 => hg9); (k_here; (with_reducible show wpAny _ _ (call _ [Value.ref _, Value.str _ _]) _ _ _); k_dflt (refine @kdg_get1 _ _ _ _ (PySem.strKind _ _) _ _ _ _ _ _ _ _ _ _ _ _ (by k_asm) (by k_mem) (by with_reducible assumption) (by with_reducible assumption) (strKind_is _ _ _ _) _ (by with_reducible assumption) ?_; k_whole); (try dsimp only [Option.getD])))
  k_with "own setAttr ref" => ((fail_if_success fail_if_success with_reducible rename Pt 1 => hg9); (k_here; (with_reducible show wpAny _ _ (setAttr (Value.ref _) (Str.ofString "last_number") (Value.int _ _)) _ _ _); k_dflt (refine @set_wn _ _ _ _ _ _ _ _ _ _ _ _ _ _ _ _ _ _ _ _ _ _ _ (by k_asm) (by k_asm) (by k_asm) (by k_mem) (by k_updF) (by with_reducible assumption) (by k_is) (by k_is) (by k_is) (by k_is) ?_; k_whole); intro _ _ _ _ wn9 _ _; (obtain ⟨_, _⟩ := wn9); (try k_sweep)))
  k_with "own setAttr ref" => ((fail_if_success fail_if_success with_reducible rename Pt 1 => hg9); (fail_if_success fail_if_success with_reducible rename MD _ => hg9); (k_here; k_dflt (refine @set_md _ _ _ _ _ _ _ _ _ _ _ _ _ _ _ _ _ _ _ (by k_asm) (by k_asm) (by k_asm) (by k_mem) (by k_updF) (by with_reducible assumption) (by first | exact .head _ | exact .tail _ (.head _) | exact .tail _ (.tail _ (.head _)) | exact .tail _ (.tail _ (.tail _ (.head _)))) (by k_is) (by k_is) (by k_is) (by k_is) ?_; k_whole); intro _ _ _ _ _ _; (k_extra "nd"); (try k_sweep)))
  k_with "own setItem ref str" => ((fail_if_success fail_if_success with_reducible rename Pt 1 => hg9); (k_here; k_dflt (refine @kda_set _ _ _ _ (PySem.strKind _ _) _ _ _ _ _ _ _ _ _ _ _ _ _ _ _ (by k_asm) (by k_asm) (by k_updF) (by with_reducible assumption) (strKind_is _ _ _ _) (by (rw [sizeLine_eq]; have hmk9 := MK.cnt (by with_reducible assumption); lia)) ?_; k_whole); intro _ _ _ _ _; (k_extra "nd"); (try k_sweep)))
  k_with "own compareOp NotIn str ref" => ((fail_if_success fail_if_success with_reducible rename Pt 1 => hg9); (k_here; (with_reducible show wpAny _ _ (compareOp CmpOp.NotIn _ (Value.ref 554)) _ _ _); k_dflt (refine @notin_tuple_strs _ _ _ _ _ _ _ _ _ _ _ (by exact tupK (Frag.In.keeps (by k_asm) (Fr.keep (by k_asm))) (by k_is)) (by exact .cons _ _ (.cons _ _ (.cons _ _ .nil))) ?_; k_whole)))
  k_with "own compareOp In str ref" => ((fail_if_success fail_if_success with_reducible rename Pt 1 => hg9); (k_here; k_dflt (refine @kda_in _ _ _ _ (PySem.strKind _ _) _ _ _ _ _ _ _ _ _ _ _ _ (by k_asm) (by k_mem) (by with_reducible assumption) (by with_reducible assumption) (strKind_is _ _ _ _) false (by exact rfl) ?_; k_whole)))
  k_with "own call ref" => ((fail_if_success fail_if_success with_reducible rename Pt 1 => hg9); (k_here; (with_reducible show wpAny _ _ (call (Value.ref 602) [_]) _ _ _); k_dflt (refine @wpAny_call _ _ _ _ _ _ _ _ ?_; k_extra "enterT")))
  k_with "own call ref" => ((fail_if_success fail_if_success with_reducible rename Pt 1 => hg9); (k_here; (with_reducible show wpAny _ _ (call (Value.ref 628) [_, _]) _ _ _); k_dflt (refine @wpAny_call _ _ _ _ _ _ _ _ ?_); k_dflt (refine @code_defC _ _ _ _ _ _ _ _ _ _ _ _ _ _ _ _ _ _ _ _ _ _ _ _ _ _ _ _ _ _ _ _ _ _ _ _ _ (by k_asm) (by k_asm) (by k_asm) (by k_asm) (by k_asm) (by exact rfl) (by exact rfl) (by first | exact rfl | assumption) (by k_is) (by k_is) (by ktr_room) (by exact BindsTo.of_eq rfl) (by exact rfl) (by decide +kernel) ?_ (by exact rfl) (by exact rfl) (by exact rfl); k_whole; intro _ _ _ _ _ _ _ _ Y9 _ _ _ l1; (try (have hcl9 := tl_off1 l1 (by k_extra "tlp"); revert hcl9; intro _)); (first | k_lt l1 | (revert l1; intro _)); k_cells Y9; (k_extra "nn"); (try dsimp only); (try k_fold))))
  k_with "own call ref" => ((fail_if_success fail_if_success with_reducible rename Pt 1 => hg9); (k_here; (with_reducible show wpAny _ _ (call (Value.ref 407) [_, _, _, _]) _ _ _); k_dflt (refine @mod_use _ _ _ _ _ _ _ _ _ _ _ _ _ _ _ _ _ _ _ _ _ _ _ _ _ _ _ _ _ _ _ (by k_asm) (by k_asm) (by k_asm) (by k_asm) (by first | exact rfl | assumption) (by ktr_room) (by ktr_units) (by k_asm) (by k_extra "spl") (by k_extra "inv") ?_); intro _ _ _ _ _ _ _ _ _ hdx9 _ _ _ _; (try dsimp only); (k_extra "oe"); (k_extra "nn"); (try simp only [List.cons_append, List.nil_append] at hdx9); (have hdy9 := allNe9_of hdx9); (dsimp only [AllNe9] at hdy9); (try simp only [and_true] at hdy9); (repeat (obtain ⟨_, hdy9⟩ := hdy9)); (revert hdy9; intro _); (try (have hdz9 := off_tl hdx9 (by k_extra "tlp"); revert hdz9; intro _)); clear hdx9; (try k_sweep)))
  k_with "own call ref" => ((fail_if_success fail_if_success with_reducible rename Pt 1 => hg9); (k_here; (with_reducible show wpAny _ _ (call (Value.ref 623) [_, _]) _ _ _); k_dflt ((refine' blt_use (by with_reducible assumption) (by k_asm) (by k_asm) (by k_asm) (by k_asm) (by first | exact rfl | assumption) ?_ ?_ (by k_extra "wst") (by k_asm) (by k_extra "pick") (by k_extra "pick") (by k_extra "spl") (by first | with_reducible assumption | ((try dsimp only); lia)) (by k_all) (by k_all) (by k_extra "inv") (by first | with_reducible assumption | decide) ?_); (focus ktr_room); (focus ktr_units)); intro _ _ _ _ _ _ _ _ _ _ _ _ _; (obtain ⟨_, ⟨_, _, _, _, hoe9, _, _⟩, _, _⟩ := WSt.copy (by assumption)); (subst hoe9); (obtain ⟨_, _, _⟩ := WK.num (by assumption)); (try dsimp only); (k_extra "oe"); (k_extra "nn"); (try k_sweep)))
  k_with "own call" => ((fail_if_success fail_if_success with_reducible rename Pt 1 => hg9); (k_here; (with_reducible show wpAny _ _ (call _ (HAppend.hAppend _ _)) _ _ _); (dsimp only [List.cons_append, List.nil_append])))
  k_with "own subscriptTail Name Name ref str" => ((fail_if_success fail_if_success with_reducible rename Pt 1 => hg9); (k_here; (with_reducible show wpAny _ _ (subscriptTail _ _ (Value.ref 555) (Value.str _ _)) _ _ _); k_dflt (refine topItem_L (by k_asm) (by k_asm) (by kernel_rfl!) (by kernel_rfl!) (by with_reducible assumption) ?_)))
  k_with "own call builtin:dict.get" => ((fail_if_success fail_if_success with_reducible rename Pt 1 => hg9); (k_here; (with_reducible show wpAny _ _ (call _ [Value.ref 558, Value.str _ _, _]) _ _ _); k_dflt (refine @topGet2_L _ _ _ _ _ _ _ _ _ _ _ _ _ _ _ (by k_asm) (by k_asm) (by kernel_rfl!) (by kernel_rfl!) (by with_reducible assumption) (by decide) ?_; k_whole)))
  k_with "own eval ListComp" => ((fail_if_success fail_if_success with_reducible rename Pt 1 => hg9); (k_here; (with_reducible show wpAny _ _ (eval (Expr.ListComp (Expr.Call (Expr.Attribute (Expr.Name _ _) (Str.ofString "builtin") _) _ _ _) _ _ _) _) _ _ _); k_dflt (refine ListComp_UT (F₀ := by k_asm) (by with_unfolding_all rfl) (by decide) (by rfl) (by decide) (by rfl) ?_)))
  k_with "own CompSrcTu" => ((fail_if_success fail_if_success with_reducible rename Pt 1 => hg9); (refine Stp.out ?_))
  k_with "own getMethod ref" => ((fail_if_success fail_if_success with_reducible rename Pt 1 => hg9); (k_here; (with_reducible show wpAny _ _ (getMethod (Value.ref 558) (Str.ofString "get") _) _ _ _); k_dflt (refine @topMeth_L _ _ _ _ _ _ _ _ _ _ _ _ (by k_asm) (by k_asm) (by kernel_rfl!) (by kernel_rfl!) ?_; k_whole)))
  k_with "own exec Assign cons ListComp" => ((fail_if_success fail_if_success with_reducible rename Pt 1 => hg9); (k_here; (with_reducible show wpAny _ _ (exec (Stmt.Assign [Expr.Attribute _ _ _] (Expr.ListComp _ _ _ _) _) _) _ _ _); with_reducible refine @plainObj_wpAny_Assign_Attribute _ _ _ _ _ _ _ _ _ _ _ ?_ ?_; rotate_left; with_unfolding_all rfl))
  k_with "own call ref" => ((fail_if_success fail_if_success with_reducible rename Pt 1 => hg9); (k_here; (with_reducible show wpAny _ _ (call (Value.ref 635) [_, _]) _ _ _); k_dflt (refine @wpAny_call _ _ _ _ _ _ _ _ ?_; k_extra "enterT")))
  trivial
theorem lines_4 : True := by
  k_with "own getMethod ref" => ((fail_if_success fail_if_success with_reducible rename Pt 2 => hg9); (fail_if_success (with_reducible show wpAny _ _ (getMethod _ (Str.ofString "append") _) _ _ _)); (k_here; (with_reducible rename WSt _ _ _ _ _ _ _ _ _ => hws9); k_dflt (refine @wst_meth _ _ _ _ _ _ _ _ _ _ _ _ _ _ _ _ _ _ _ _ _ _ (by k_asm) (by k_asm) (by k_asm) hws9 (by k_extra "all") (by k_mem) (by k_is) (by k_is) (by k_is) (by first | exact WN.n1 | exact WN.n2 | exact WN.n3 | exact WN.n4 | exact WN.n5 | exact WN.n6 | exact WN.n7 | exact WN.n8) ?_; k_whole)))
  k_with "own call ref" => ((fail_if_success fail_if_success with_reducible rename Pt 2 => hg9); (k_here; (with_reducible show wpAny _ _ (call (Value.ref 602) [_]) _ _ _); k_dflt ((refine' num_use (by k_asm) (by k_asm) (by k_asm) (by k_asm) (by first | exact rfl | assumption) ?_ ?_ (by k_extra "wst") (by k_asm) (by k_extra "pick") (by k_extra "spl") (by k_all) ?_); (focus ktr_room); (focus ktr_units)); (with_reducible rename WSt _ _ _ _ _ _ _ _ _ => hws9); intro _ _ _ _ _ _ _ _; clear hws9; (try dsimp only); (try k_sweep)))
  k_with "own call ref" => ((fail_if_success fail_if_success with_reducible rename Pt 2 => hg9); (k_here; (with_reducible show wpAny _ _ (call (Value.ref 623) [_, _]) _ _ _); k_dflt ((refine' blt_use (blt_all _ _) (by k_asm) (by k_asm) (by k_asm) (by k_asm) (by first | exact rfl | assumption) ?_ ?_ (by k_extra "wst") (by k_asm) (by k_extra "pick") (by k_extra "pick") (by k_extra "spl") (by first | with_reducible assumption | ((try dsimp only); lia)) (by k_all) (by k_all) (by k_extra "inv") (by first | with_reducible assumption | decide +kernel) ?_); (focus ktr_room); (focus ktr_units)); (with_reducible rename WSt _ _ _ _ _ _ _ _ _ => hws9); intro _ _ _ _ _ _ _ _ _ _ _ _ _; clear hws9; (try dsimp only); (k_extra "oe"); (k_extra "nn"); (try k_sweep)))
  k_with "own call" => ((fail_if_success fail_if_success with_reducible rename Pt 2 => hg9); (k_here; (with_reducible show wpAny _ _ (call _ (HAppend.hAppend _ _)) _ _ _); (dsimp only [List.cons_append, List.nil_append])))
  k_with "own call ref" => ((fail_if_success fail_if_success with_reducible rename Pt 2 => hg9); (k_here; (with_reducible show wpAny _ _ (call (Value.ref 692) [_, _]) _ _ _); k_dflt ((refine' lof_use (by k_asm) (by k_asm) (by k_asm) (by k_asm) (by first | exact rfl | assumption) ?_ ?_ (by k_extra "wst") (by k_asm) (by k_extra "pick") (by k_extra "pick") (by k_extra "spl") (by first | with_reducible assumption | ((try dsimp only); lia)) (by k_all) (by k_all) (by k_extra "inv") (by k_mem) (by first | decide | lia | size_fits) ?_); (focus ktr_room); (focus ktr_units)); (with_reducible rename WSt _ _ _ _ _ _ _ _ _ => hws9); intro _ _ _ _ _ _ _ _ _ _ _ _ _ _; clear hws9; (try dsimp only); (k_extra "oe"); (k_extra "nn"); (try k_sweep)))
  k_with "own getMethod ref" => ((fail_if_success fail_if_success with_reducible rename Pt 2 => hg9); (k_here; (with_reducible show wpAny _ _ (getMethod (Value.ref _) (Str.ofString "setdefault") _) _ _ _); k_dflt (refine @vd_method _ _ _ _ _ _ _ _ _ _ _ _ _ (by k_asm) (by k_mem) (by with_reducible assumption) ?_; k_whole)))
  k_with "own call builtin:dict.setdefault" => ((fail_if_success fail_if_success with_reducible rename Pt 2 => hg9); (k_here; (with_reducible show wpAny _ _ (call _ [Value.ref _, Value.str _ _, _]) _ _ _); k_dflt (refine @vd_setdefault _ _ _ _ _ _ _ _ _ _ _ _ _ _ _ _ _ _ (by k_asm) (by k_asm) (by k_updF) (by k_extra "vdm") (by with_reducible assumption) (by k_extra "fvm") (by lia) ?_; k_whole); (with_reducible rename VD _ _ _ _ => hvd9); intro _ _ _ _ _ _ _; clear hvd9; (k_extra "nd"); (try k_sweep)))
  k_with "own call ref" => ((fail_if_success fail_if_success with_reducible rename Pt 2 => hg9); (k_here; (with_reducible show wpAny _ _ (call (Value.ref 511) [_, _, _, _]) _ _ _); k_dflt ((refine' putc_apply (by with_reducible assumption) (by k_asm) (by k_asm) (by k_asm) (by k_asm) (by first | exact rfl | assumption) ?_ ?_ (by k_extra "wst") (by k_extra "vdm") (by k_asm) (by k_extra "pick") (by k_extra "pick") (by k_extra "pick") (by k_extra "spl") (by with_reducible assumption) (by with_reducible assumption) (by with_reducible assumption) (by k_all) (by k_all) (by k_all) (by k_extra "inv") (by with_reducible assumption) (by lia) (by with_reducible assumption) (by with_reducible assumption) (by first | with_reducible assumption | exact rfl) ?_); (focus ktr_room); (focus ktr_units)); (with_reducible rename WSt _ _ _ _ _ _ _ _ _ => hws9); (with_reducible rename VD _ _ _ _ => hvd9); intro _ _ _ _ _ _ _ _ _ _ _ _ _ _ _ _; clear hws9 hvd9; (try dsimp only); (k_extra "oe"); (k_extra "nn"); (try k_sweep)))
  k_with "own call ref" => ((fail_if_success fail_if_success with_reducible rename Pt 2 => hg9); (k_here; (with_reducible show wpAny _ _ (call (Value.ref 776) [_, _, _]) _ _ _); k_dflt ((refine' fai_use (by k_asm) (by k_asm) (by k_asm) (by k_asm) (by first | exact rfl | assumption) ?_ ?_ (by k_extra "wst") (by k_asm) (by k_extra "pick") (by k_extra "pick") (by k_extra "spl") (by first | with_reducible assumption | ((try dsimp only); lia)) (by k_all) (by k_all) (by k_extra "inv") (by first | with_reducible assumption | decide +kernel) ?_); (focus ktr_room); (focus ktr_units)); intro _ _ _ _ _ _ _ _ _ _ _ _ _ _ _ _ _; (try dsimp only); (k_extra "oe")))
  k_with "own leaving ref" => ((fail_if_success fail_if_success with_reducible rename Pt 2 => hg9); (k_here; k_dflt (refine @leave_onR _ _ _ _ _ _ _ _ _ _ _ _ _ _ _ _ _ _ _ _ (by assumption) (by assumption) (by assumption) (by assumption) ?_; k_whole); intro _ S9 R9 U9; (try dsimp only at S9 R9 U9 ⊢); (revert S9 R9 U9; intro _ _ _)))
  trivial

section
section
variable {w : World} {A : Around} {E : Value → Shared → Prop} {s : Shared} {Q : Value → Shared → Prop} {x : Addr} {ox od : Obj}
theorem isi_lb (X : (hd.heap_39 w.params).In s.heap) (I : InstAt s.heap x ox 261 (some od)) (h : Q (.bool false) { s with toks := s.toks + 1 }) : wpAny (model PG w) A (call (.builtin "isinstance") [.ref x, .type "bool"]) Q E s := by
  refine' kin_callT X I ?k3 ?ty ?k4 ?k5 ?k6 ?k7 ?k8 ?k9 h; (case k3 => kin_no); (case ty => kernel_rfl); (case k4 => k_is); (case k5 => k_is); (case k6 => k_is); (case k7 => k_is); (case k8 => k_is); (case k9 => k_is)
theorem isi_li (X : (hd.heap_39 w.params).In s.heap) (I : InstAt s.heap x ox 261 (some od)) (h : Q (.bool false) { s with toks := s.toks + 1 }) : wpAny (model PG w) A (call (.builtin "isinstance") [.ref x, .type "int"]) Q E s := by
  refine' kin_callT X I ?k3 ?ty ?k4 ?k5 ?k6 ?k7 ?k8 ?k9 h; (case k3 => kin_no); (case ty => kernel_rfl); (case k4 => k_is); (case k5 => k_is); (case k6 => k_is); (case k7 => k_is); (case k8 => k_is); (case k9 => k_is)
theorem isi_ls (X : (hd.heap_39 w.params).In s.heap) (I : InstAt s.heap x ox 261 (some od)) (h : Q (.bool false) { s with toks := s.toks + 1 }) : wpAny (model PG w) A (call (.builtin "isinstance") [.ref x, .type "str"]) Q E s := by
  refine' kin_callT X I ?k3 ?ty ?k4 ?k5 ?k6 ?k7 ?k8 ?k9 h; (case k3 => kin_no); (case ty => kernel_rfl); (case k4 => k_is); (case k5 => k_is); (case k6 => k_is); (case k7 => k_is); (case k8 => k_is); (case k9 => k_is)
theorem isi_ll (X : (hd.heap_39 w.params).In s.heap) (I : InstAt s.heap x ox 261 (some od)) (h : Q (.bool false) { s with toks := s.toks + 1 }) : wpAny (model PG w) A (call (.builtin "isinstance") [.ref x, .type "list"]) Q E s := by
  refine' kin_callT X I ?k3 ?ty ?k4 ?k5 ?k6 ?k7 ?k8 ?k9 h; (case k3 => kin_no); (case ty => kernel_rfl); (case k4 => k_is); (case k5 => k_is); (case k6 => k_is); (case k7 => k_is); (case k8 => k_is); (case k9 => k_is)
theorem isi_L (X : (hd.heap_39 w.params).In s.heap) (I : InstAt s.heap x ox 261 (some od)) (h : Q (.bool true) s) : wpAny (model PG w) A (call (.builtin "isinstance") [.ref x, .ref 261]) Q E s := by
  refine' isi_call X (fun M => I.type) ?k3 ?k4 h; (case k3 => k_is); (case k4 => intro e; cases e)
theorem isi_P (X : (hd.heap_39 w.params).In s.heap) (I : InstAt s.heap x ox 198 (some od)) (h : Q (.bool true) s) : wpAny (model PG w) A (call (.builtin "isinstance") [.ref x, .ref 198]) Q E s := by
  refine' isi_call X (fun M => I.type) ?k3 ?k4 h; (case k3 => k_is); (case k4 => intro e; cases e)
theorem isn_sP {n : Str} {t : Tok} (X : (hd.heap_39 w.params).In s.heap) (h : Q (.bool false) { s with toks := s.toks + 1 }) : wpAny (model PG w) A (call (.builtin "isinstance") [.str n t, .ref 198]) Q E s := by
  refine' isn_call (P := fun _ => True) X ?k2 ?k3 ?k4 ?k5 str_cls h; (case k2 => (intro M; exact Looks.of_pure rfl)); (case k3 => k_not); (case k4 => intro e; cases e); (case k5 => trivial)
theorem isn_iL {n : Int} {t : Tok} (X : (hd.heap_39 w.params).In s.heap) (h : Q (.bool false) { s with toks := s.toks + 1 }) : wpAny (model PG w) A (call (.builtin "isinstance") [.int n t, .ref 261]) Q E s := by
  refine' isn_call (P := fun _ => True) X ?k2 ?k3 ?k4 ?k5 int_cls h; (case k2 => (intro M; exact Looks.of_pure rfl)); (case k3 => k_not); (case k4 => intro e; cases e); (case k5 => trivial)
theorem isn_nL (X : (hd.heap_39 w.params).In s.heap) (h : Q (.bool false) { s with toks := s.toks + 1 }) : wpAny (model PG w) A (call (.builtin "isinstance") [.none, .ref 261]) Q E s := by
  refine' isn_call (P := fun _ => True) X ?k2 ?k3 ?k4 ?k5 none_cls h; (case k2 => (intro M; exact Looks.of_pure rfl)); (case k3 => k_not); (case k4 => intro e; cases e); (case k5 => trivial)
end
end
section
def mdNames : List Str := [Str.ofString "native", Str.ofString "parent", Str.ofString "owner", Str.ofString "mixed"]
def MD (es : List DictEntry) : Prop := es.length ≤ 100 ∧ ∀ y ∈ mdNames, ∃ v, getL y es = some (some v)
theorem MD.put {es : List DictEntry} (M : MD es) {name : Str} (hn : name ∈ mdNames) (hsh : Int) (t : Tok) (v : Value) : MD (putL name hsh (.str name t) v es) := by
  obtain ⟨u, hu⟩ := M.2 name hn
  refine ⟨by rw [putL_len_eq es hu]; exact M.1, fun y hy => ?_⟩
  by_cases e : name = y
  · subst e; exact ⟨v, getL_put es⟩
  · rw [getL_put_ne e]; exact M.2 y hy
section
variable {prog : Program} {w : World} {A A₀ : Around} {E : Value → Shared → Prop} {s : Shared} {K : Frag} {x C dx L : Addr} {h₀ : Heap} {m : Str → Option Value} {news : List (Addr × Obj)} {es : List DictEntry} {n : Nat} {name : Str} {v : Value} {g : Obj → Led}
theorem set_md {Q : Unit → Shared → Prop} (F : Fr h₀ L s.heap m) (X₀ : K.In h₀) (N : News h₀ L s.heap news) (h1 : (x, instObj C dx) ∈ news) (U : UpdF dx (dictOf es n) news g) (M : MD es) (hn : name ∈ mdNames)
    (hs : findIn K (.ref C) "__setattr__" = some (some (.builtin "object.__setattr__"))) (hp : plainOver K C = true) (ht : takerIn K C name = some none) (hh : hasDictIn K C = true)
    (h : ∀ h' es' n', MD es' → Fr h₀ L h' m → News h₀ L h' (g (dictOf es' n')) → Q () { s with heap := h', toks := s.toks + 2 }) :
    wpAny (model prog w) A (setAttr (.ref x) name v) Q E s := by
  obtain ⟨pre, post, rfl, hg, a, b⟩ := U.split
  obtain ⟨u, hu⟩ := M.2 name hn
  have M' := M.put hn (PyData.keyHash w.params name) (s.toks + 1) v
  exact set_dict F X₀ N (InstAt.of_news N h1 (List.mem_append_right _ List.mem_cons_self)) rfl hs hp ht hh (by rw [hu]; rfl) rfl (upd_of a b) (Nat.le_trans M'.1 (by decide)) fun h' F' N' => h h' _ _ M' F' (hg _ ▸ N')
theorem set_wn {k : Int} {u : Tok} {mD nat pr : Addr} {rd : Bool} {Q : Unit → Shared → Prop} (F : Fr h₀ L s.heap m) (X₀ : K.In h₀) (N : News h₀ L s.heap news) (h1 : (x, instObj C dx) ∈ news) (U : UpdF dx (dictOf es n) news g) (W : WK es mD nat pr rd)
    (hs : findIn K (.ref C) "__setattr__" = some (some (.builtin "object.__setattr__"))) (hp : plainOver K C = true) (ht : takerIn K C (Str.ofString "last_number") = some none) (hh : hasDictIn K C = true)
    (h : ∀ h' es' n', WK es' mD nat pr rd → (∃ t, getL (Str.ofString "last_number") es' = some (some (.int k t))) → Fr h₀ L h' m → News h₀ L h' (g (dictOf es' n')) → Q () { s with heap := h', toks := s.toks + 2 }) :
    wpAny (model prog w) A (setAttr (.ref x) (Str.ofString "last_number") (.int k u)) Q E s := by
  obtain ⟨pre, post, rfl, hg, a, b⟩ := U.split
  obtain ⟨k0, t0, hu⟩ := W.num
  have W' := W.put (PyData.keyHash w.params (Str.ofString "last_number")) (s.toks + 1) k u
  exact set_dict F X₀ N (InstAt.of_news N h1 (List.mem_append_right _ List.mem_cons_self)) rfl hs hp ht hh (by rw [hu]; rfl) rfl (upd_of a b) (Nat.le_trans W'.len (by decide)) fun h' F' N' => h h' _ _ W' ⟨_, getL_put es⟩ F' (hg _ ▸ N')
end
theorem lines_5 : True := by
  k_with "own call ref" => ((fail_if_success fail_if_success with_reducible rename Pt 27 => hg9); (k_here; (with_reducible show wpAny _ _ (call (Value.ref _) [_, _, _]) _ _ _); k_dflt (refine @wpAny_call _ _ _ _ _ _ _ _ ?_; k_extra "enterT")))
  trivial
section
variable {w : World} {p : Program} {loose : List Str} {mean : ExcName → Option Value} {mg mb : Str → Option Value} {dp un : Nat} {gd : Option (List Code)} {cn : Str} {cs : Scope} {a : Addr} {ccd : Value} {cl : List (Str × Addr)} {outer : List Env} {A₀ : Around} {base h₀ : Heap} {L : Addr} {m : Str → Option Value} {s : Shared} {Q E' : Value → Shared → Prop}
theorem mod_use {name : Str} {k : Int} {b : Bool} {t tn : Tok} {Z E news : Led}
    (B : Below A₀ base outer h₀) (F : Fr h₀ L s.heap m) (X : (hd.heap_39 w.params).In h₀) (T : Top p loose mean mg mb h₀) (hk : cs.kind = .function) (hd : dp + 3 < recursionLimit) (hu : un + 48 < cLine)
    (N : News h₀ L s.heap news) (S : Spl Z news E) (hE : OffAll E Z)
    (hret : ∀ x dx es n Z' h' tk', Ext Z Z' → OffAll E Z' → (∀ q ∈ E ++ Z', q.1 ≠ dx) → (x, instObj 407 dx) ∈ Z' → MD es → Fr h₀ L h' m → News h₀ L h' ((dx, dictOf es n) :: (E ++ Z')) → Q (.ref x) { s with heap := h', toks := tk' }) :
    wpAny (model PG w) (ktrTop dp un gd cn cs L a ccd cl outer) (call (.ref 407) [.int k t, .none, .str name tn, .bool b]) Q E' s := by
  have hpt9 : Pt 27 := trivial
  have e := S.eq
  subst e
  clear S
  k_dflt k_extra "cb"
  rename_i x0 d0 _ _ _ l0 l2x _ _ _ _ _ _ _ _ _
  have hd : ∀ q ∈ E ++ Z, q.1 ≠ d0 := fun q hq => Nat.ne_of_lt (l0 q hq)
  have hx : ∀ q ∈ E ++ Z, q.1 ≠ x0 := fun q hq => Nat.ne_of_lt (Nat.lt_trans (l0 q hq) l2x)
  k_extra "steps"
  rename_i D3 _ o3 lo3 _ _ _ _ a3 hot3 _ _ _ _ F3 N3 _ _ _ _ _ _ D2 _ o2 lo2 _ _ _ _ a2 hot2 _ D1 _ o1 lo1 _ _ _ _ a1 hot1 _ L2 _ b2 hotb2 _ L1 _ b1 hotb1 _ _ _ _ F1 N1 kF kN _ _
  refine hret x0 d0 _ _ ((L1, _) :: (L2, _) :: (D1, _) :: (D2, _) :: (D3, _) :: (x0, _) :: Z) _ _ Ext.refl.cons.cons.cons.cons.cons.cons
    (offAll_cons (offAll_cons (offAll_cons (offAll_cons (offAll_cons (offAll_cons hE (off_app hx).1) (off_app hot3).1) (off_app hot2).1) (off_app hot1).1) (off_app hotb2).1) (off_app hotb1).1)
    (off_join (off_app hd).1 (off_cons (by dsimp only; lia) (off_cons (by dsimp only; lia) (off_cons (by dsimp only; lia) (off_cons (by dsimp only; lia) (off_cons (by dsimp only; lia) (off_cons (by dsimp only; lia) (off_app hd).2)))))))
    (by k_mem) ⟨?_, ?_⟩ kF (nsub kN (by k_extra "all"))
  · exact Nat.le_of_ble_eq_true rfl
  intro y hy
  simp only [mdNames, List.mem_cons, List.not_mem_nil, or_false] at hy
  rcases hy with rfl | rfl | rfl | rfl <;> exact ⟨_, rfl⟩
end
end
section
theorem tl_off1 {Y n : Led} {x : Addr} (h : ∀ p ∈ n, p.1 < x) (t : Tl Y n) : ∀ q ∈ Y, q.1 ≠ x + 1 := fun q hq => Nat.ne_of_lt (Nat.lt_succ_of_lt (h q (t.sub q hq)))
def AllNe9 (d : Addr) : Led → Prop
  | [] => True
  | p :: r => @Ne Nat p.1 d ∧ AllNe9 d r
theorem allNe9_of {d : Addr} : ∀ {l : Led}, (∀ p ∈ l, p.1 ≠ d) → AllNe9 d l
  | [], _ => trivial
  | p :: _, h => ⟨h p (.head _), allNe9_of fun q hq => h q (.tail _ hq)⟩
theorem off_tl {Y n : Led} {x : Addr} (h : ∀ p ∈ n, p.1 ≠ x) (t : Tl Y n) : ∀ q ∈ Y, q.1 ≠ x := fun q hq => h q (t.sub q hq)
theorem kIn_get {K : Frag} {h : Heap} {a : Addr} {o : Obj} (X : K.In h) (e : K.lookup a = some o) : h.get? a = some o := X _ _ e
inductive NilD (w : World) (Z : Led) (a : Addr) : Prop
  | mk (o : Obj) (h : (a, o) ∈ Z) (d : o.IsDictOf (PySem.strKind PG w) [])
structure NatOk (w : World) (Z : Led) (nat pr : Addr) : Prop where
  n1 : (nat == sysModules) = false
  n2 : (pr == sysModules) = false
  n3 : NilD w Z nat
  n4 : NilD w Z pr
theorem NatOk.mono {w : World} {Z Z' : Led} {nat pr : Addr} (e : Ext Z Z') (h : NatOk w Z nat pr) : NatOk w Z' nat pr :=
  ⟨h.n1, h.n2, let ⟨o, a, b⟩ := h.n3; ⟨o, e _ a, b⟩, let ⟨o, a, b⟩ := h.n4; ⟨o, e _ a, b⟩⟩
inductive WEnt (w : World) (Z : Led) (mD : Addr) (ow : Obj) (rd : Bool) : Prop
  | mk (es : List DictEntry) (nn : Nat) (nat pr : Addr) (e : ow = dictOf es nn) (k : WK es mD nat pr rd) (o : NatOk w Z nat pr)
inductive WDict (w : World) (om : Obj) (n : Nat) : Prop
  | mk (kvs : List (Str × Value)) (d : om.IsDictOf (PySem.strKind PG w) kvs) (m : MK kvs) (l : miss kvs ≤ n)
structure WSt (w : World) (Z : Led) (W dW mD : Addr) (ow om : Obj) (rd : Bool) (n : Nat) : Prop where
  inst : (W, instObj 842 dW) ∈ Z
  ent : WEnt w Z mD ow rd
  dict : WDict w om n
  lo : (mD == sysModules) = false
theorem WSt.mono {w : World} {Z Z' : Led} {W dW mD : Addr} {ow om : Obj} {rd : Bool} {n n' : Nat} (h : WSt w Z W dW mD ow om rd n) (e : Ext Z Z') (hn : n ≤ n') : WSt w Z' W dW mD ow om rd n' :=
  ⟨e _ h.inst, let ⟨es, nn, nat, pr, a, b, c⟩ := h.ent; ⟨es, nn, nat, pr, a, b, c.mono e⟩, let ⟨k, a, b, c⟩ := h.dict; ⟨k, a, b, Nat.le_trans c hn⟩, h.lo⟩
theorem WSt.copy {w : World} {Z : Led} {W dW mD : Addr} {ow om : Obj} {rd : Bool} {n : Nat} (h : WSt w Z W dW mD ow om rd n) : WSt w Z W dW mD ow om rd n := h
structure BltC (w : World) (n : Nat) : Prop where
  use : ∀ {p : Program} {loose : List Str} {mean : ExcName → Option Value} {mg mb : Str → Option Value} {dp un : Nat} {gd : Option (List Code)} {cn : Str} {cs : Scope} {a : Addr} {ccd : Value} {cl : List (Str × Addr)} {outer : List Env} {A₀ : Around} {base h₀ : Heap} {L : Addr} {m : Str → Option Value} {s : Shared} {Q E' : Value → Shared → Prop}
    {W dW mD : Addr} {ow om : Obj} {rd : Bool} {name : Str} {tn : Tok} {Z E : Led},
    Below A₀ base outer h₀ → Fr h₀ L s.heap m → (hd.heap_39 w.params).In h₀ → Top p loose mean mg mb h₀ → cs.kind = .function → dp + 2 * n + 8 < recursionLimit → un + 100 * n + 200 < cLine →
    News h₀ L s.heap ((dW, ow) :: (mD, om) :: (E ++ Z)) → @Ne Nat dW mD → (∀ p ∈ E ++ Z, p.1 ≠ dW) → (∀ p ∈ E ++ Z, p.1 ≠ mD) → OffAll E Z → WSt w Z W dW mD ow om rd n → name ∈ bNames →
    (∀ x Z' ow' om' h' tk', Ext Z Z' → OffAll E Z' → (∀ q ∈ Z', q.1 ≠ dW) → (∀ q ∈ Z', q.1 ≠ mD) → WSt w Z' W dW mD ow' om' rd n → Fr h₀ L h' m → News h₀ L h' ((dW, ow') :: (mD, om') :: (E ++ Z')) → Q (.ref x) { s with heap := h', toks := tk' }) →
    wpAny (model PG w) (ktrTop dp un gd cn cs L a ccd cl outer) (call (.ref 623) [.ref W, .str name tn]) Q E' s
section
variable {w : World} {p : Program} {loose : List Str} {mean : ExcName → Option Value} {mg mb : Str → Option Value} {dp un : Nat} {gd : Option (List Code)} {cn : Str} {cs : Scope} {a : Addr} {ccd : Value} {cl : List (Str × Addr)} {outer : List Env} {A₀ : Around} {base h₀ : Heap} {L : Addr} {m : Str → Option Value} {s : Shared} {Q E' : Value → Shared → Prop}
theorem blt_use {n : Nat} {W dW mD : Addr} {ow om : Obj} {rd : Bool} {name : Str} {tn : Tok} {Z R R1 E news : Led} (C : BltC w n)
    (B : Below A₀ base outer h₀) (F : Fr h₀ L s.heap m) (X : (hd.heap_39 w.params).In h₀) (T : Top p loose mean mg mb h₀) (hk : cs.kind = .function) (hd : dp + 2 * n + 8 < recursionLimit) (hu : un + 100 * n + 200 < cLine)
    (hs : WSt w Z W dW mD ow om rd n) (N : News h₀ L s.heap news) (P : Pick dW ow news R1) (P2 : Pick mD om R1 R) (S : Spl Z R E) (hne : @Ne Nat dW mD) (ho : ∀ p ∈ R, p.1 ≠ dW) (ho2 : ∀ p ∈ R, p.1 ≠ mD) (hE : OffAll E Z) (hn : name ∈ bNames)
    (hret : ∀ x Z' ow' om' h' tk', Ext Z Z' → OffAll E Z' → (∀ q ∈ Z', q.1 ≠ dW) → (∀ q ∈ Z', q.1 ≠ mD) → WSt w Z' W dW mD ow' om' rd n → Fr h₀ L h' m → News h₀ L h' ((dW, ow') :: (mD, om') :: (E ++ Z')) → Q (.ref x) { s with heap := h', toks := tk' }) :
    wpAny (model PG w) (ktrTop dp un gd cn cs L a ccd cl outer) (call (.ref 623) [.ref W, .str name tn]) Q E' s := by
  have N1 : News h₀ L s.heap ((dW, ow) :: (mD, om) :: (E ++ Z)) := nsub N fun p hp => P.sub _ (by
    rcases List.mem_cons.mp hp with rfl | hp
    · exact List.mem_cons_self
    · exact List.mem_cons_of_mem _ (P2.sub _ (S.eq ▸ hp)))
  rw [S.eq] at ho ho2
  exact C.use B F X T hk hd hu N1 hne ho ho2 hE hs hn hret
end
end
section
inductive BltJ (w : World) (dx1 cC : Addr) (oC : Obj) (es3 : List DictEntry) (n3 : Nat) (W dW mD : Addr) (E Z1 : Led) (rd : Bool) (n : Nat) (v : Value) : Led → Prop
  | mk (Z2) (ow2) (om2) (c1 : Ext Z1 Z2) (c2 : OffAll E Z2) (c3 : (∀ q ∈ Z2, q.1 ≠ dx1)) (c4 : (∀ q ∈ Z2, q.1 ≠ cC)) (c5 : (∀ q ∈ Z2, q.1 ≠ dW)) (c6 : (∀ q ∈ Z2, q.1 ≠ mD)) (c7 : WSt w Z2 W dW mD ow2 om2 rd (n - 1)) : BltJ w dx1 cC oC es3 n3 W dW mD E Z1 rd n v ((dx1, dictOf es3 n3) :: (cC, oC) :: (dW, ow2) :: (mD, om2) :: (E ++ Z2))
inductive BltK (w : World) (dx1 cC : Addr) (oC : Obj) (es8 : List DictEntry) (n8 : Nat) (W dW mD D8 : Addr) (E Z8 : Led) (rd : Bool) (n : Nat) (j : Nat) (ys : List Value) : Led → Prop
  | mk (c1 : ys.length = j) (Z9) (ow9) (om9) (c2 : Ext ((D8, tupOf #[]) :: Z8) Z9) (c3 : OffAll E Z9) (c4 : (∀ q ∈ Z9, q.1 ≠ dx1)) (c5 : (∀ q ∈ Z9, q.1 ≠ cC)) (c6 : (∀ q ∈ Z9, q.1 ≠ dW)) (c7 : (∀ q ∈ Z9, q.1 ≠ mD)) (c8 : WSt w Z9 W dW mD ow9 om9 rd (n - 1)) : BltK w dx1 cC oC es8 n8 W dW mD D8 E Z8 rd n j ys ((dx1, dictOf es8 n8) :: (cC, oC) :: (dW, ow9) :: (mD, om9) :: (E ++ Z9))
theorem blt_step (w : World) (n : Nat) (IH : ∀ n', n' < n → BltC w n') : BltC w n := by
  have hp19 : Pt 1 := trivial
  constructor
  intro p loose mean mg mb dp un gd cn cs a ccd cl outer A₀ base h₀ L m s Q E' W dW mD ow om rd name tn Z E B F X T hk hd hu N hne ho ho2 hE hs hn hret
  obtain ⟨hi, ⟨es, nn, nat, pr, rfl, wk, no⟩, ⟨kvs, dk, mk, hms⟩, lo⟩ := hs
  have hoE := off_appL ho
  have hoZ := off_appR ho
  have ho2E := off_appL ho2
  have ho2Z := off_appR ho2
  refine @wpAny_call _ _ _ _ _ _ _ _ ?_
  cases hv : valueAt kvs name with
  | some v =>
    obtain ⟨x, rfl⟩ := mk.refs _ _ hv
    k_dflt k_extra "enterC"
    k_extra "steps"
    rename_i kF kN _ _
    exact hret x Z _ _ _ _ Ext.refl hE hoZ ho2Z ⟨hi, ⟨es, nn, nat, pr, rfl, wk, no⟩, ⟨kvs, dk, mk, hms⟩, lo⟩ kF (nsub kN (by k_extra "all"))
  | none =>
    obtain ⟨pv, hpv, hpo⟩ := (nm_ok w name hn).par
    obtain ⟨r, hmr, hmx⟩ : ∃ r, nsIn (Mine.hd.heap_39 w.params) 558 name = some r ∧ (r = none ∨ ∃ a on t, r = some (.ref a) ∧ (Mine.hd.heap_39 w.params).lookup a = some (⟨.type "tuple", none, .seq [Value.str on t].toArray, #[]⟩ : Obj) ∧ on ∈ bNames) := by
      rcases (nm_ok w name hn).mix with h | ⟨a, on, t, h, h2, h3⟩
      · exact ⟨_, h, .inl rfl⟩
      · exact ⟨_, h, .inr ⟨a, on, t, rfl, h2, h3⟩⟩
    have hln := (nm_ok w name hn).len
    obtain ⟨k0, t0, hk0⟩ := wk.num
    have hm0 := (mk.add (x := 0) hv hn).2
    have C := IH (n - 1) (by lia)
    have hstp : StpE := trivial
    k_dflt k_extra "enterC"
    k_extra "steps"
    refine Stp.in ?_
    with_reducible refine @IfExp_ _ _ _ _ _ _ _ _ _ _ ?_
    have hstp : StpE := trivial
    k_extra "steps"
    refine Stp.in ?_
    rename_i gC LC _ _ _ _ _ _ hcl l1C _ oC dC _ _ _ _ _ _ _ _ es2 n2 wk2 _ _ _ wn2 _ _ x1 dx1 _ _ Z1 _ _ hZ1 hx1 _ hoC hoW hoM hOE1 _ _ _ _ hdz _ _ o1 hd1 _ es3 n3 md3 h3 F3 N3
    have ws1 : WSt w Z1 W dW mD (dictOf es2 n2) o1 rd (n - 1) := ⟨hZ1 _ hi, ⟨es2, n2, nat, pr, rfl, wk2, no.mono hZ1⟩, ⟨_, hd1, (mk.add hv hn).1, by have := (mk.add (x := x1) hv hn).2; lia⟩, lo⟩
    have hdE := off_appL hdz
    have hdZ := off_appR hdz
    have hcE := off_appL hcl
    refine @cutE _ _ _ _ _ _ _ _ _ (BltJ w dx1 (LC + 1) oC es3 n3 W dW mD E Z1 rd n) F3 ?_ ?_
    · rcases hpo with rfl | ⟨pn, tp, rfl, hpn⟩
      · k_extra "steps"
        exact CutP.intro F3 N3 _ (by k_extra "all") ⟨Z1, _, _, Ext.refl, hOE1, hdZ, hoC, hoW, hoM, ws1⟩
      · k_extra "steps"
        rename_i x5 Z5 om5 h5 tk5 hZ5 hob5 hos5 F5 _ _ _ wes5 wnn5 _ _ _ _ hs5 N5 _ _ _ hoD5 hoC5 hOE5
        exact CutP.intro F5 N5 _ (by k_extra "all") ⟨Z5, _, _, hZ5, hOE5, hoD5, hoC5, hob5, hos5, hs5⟩
    · rintro v h' tk' nw F4 N4 ⟨Z2, ow2, om2, hZ2, hOE2, hdZ2, hoC2, hoW2, hoM2, ws2⟩
      obtain ⟨hi2, ⟨es4, nn4, nat4, pr4, rfl, wk4, no4⟩, dd4, lo4⟩ := id ws2
      obtain ⟨kk4, kt4, hkn4⟩ := wk4.num
      have hstp : StpE := trivial
      k_extra "steps"
      refine Stp.in ?_
      rename_i _ es5 n5 md5 F5 N5
      refine @cutE _ _ _ _ _ _ _ _ _ (fun v nw => nw = (dx1, dictOf es5 n5) :: (LC + 1, oC) :: (dW, dictOf es4 nn4) :: (mD, om2) :: (E ++ Z2) ∧ ∃ nm t, v = .str nm t ∧ nm ∈ bNames) F5 ?_ ?_
      · k_extra "steps"
        all_goals exact CutP.intro F5 N5 _ (by k_extra "all") ⟨rfl, _, _, rfl, by decide +kernel⟩
      · rintro v h' tk' nw F6 N6 ⟨rfl, nm, t, rfl, hnm⟩
        k_extra "steps"
        refine Stp.in ?_
        rename_i x8 Z8 om8 _ _ hZ8 hob8 hos8 _ _ _ wes8 wnn8 _ _ _ _ hs8 _ _ _ hoD8 hoC8 hOE8 _ es8 n8 md8 D8 h8 F8 N8 l8 hot8
        have hD8E := off_appL hot8
        have hD8Z := off_appR hot8
        have H : ∃ src vs, r.getD (.ref D8) = .ref src ∧ (∀ v ∈ (vs : List Value), ∃ on t, v = .str on t ∧ on ∈ bNames) ∧ vs.length ≤ 1 ∧ ∀ Z9, Ext ((D8, tupOf #[]) :: Z8) Z9 → SrcTu gC src vs.toArray Z9 := by
          rcases hmx with rfl | ⟨am, on, tm, rfl, ham, hon⟩
          · exact ⟨D8, [], rfl, (fun v hv => nomatch hv), by decide, fun Z9 e => .inr (e _ List.mem_cons_self)⟩
          · refine ⟨am, [.str on tm], rfl, fun v hv => ?_, Nat.le_refl _, fun Z9 e => .inl ⟨_, kIn_get (by k_asm) ham, rfl, _, rfl⟩⟩
            rw [List.mem_singleton.mp hv]; exact ⟨on, tm, rfl, hon⟩
        obtain ⟨src, vs, hsrc, hvs, hvl, hsr⟩ := H
        rw [hsrc]
        refine CompSrcTu.mk (its := vs.toArray) rfl F8 (nsub (news' := (dx1, dictOf es8 n8) :: (LC + 1, oC) :: (dW, dictOf wes8 wnn8) :: (mD, om8) :: (E ++ ((D8, tupOf #[]) :: Z8))) N8 (by k_extra "all")) ?_ ?_ ?_
        · exact (hsr _ Ext.refl).imp id fun h => List.mem_cons_of_mem _ (List.mem_cons_of_mem _ (List.mem_cons_of_mem _ (List.mem_cons_of_mem _ (List.mem_append_right _ h))))
        · rw [List.size_toArray, sizeLine_eq]; lia
        intro g9
        refine compZ (BltK w dx1 (LC + 1) oC es8 n8 W dW mD D8 E Z8 rd n) ?_ ?_ ?_ ?_
        · rintro j ys nw ⟨_, Z9, ow9, om9, hZ9, _⟩
          exact (hsr _ hZ9).imp id fun h => List.mem_cons_of_mem _ (List.mem_cons_of_mem _ (List.mem_cons_of_mem _ (List.mem_cons_of_mem _ (List.mem_append_right _ h))))
        · rintro j v ys nw I2 oI2 C2 oC2 D2 m₂ h2 tk2 E2 hj hv ⟨hyl, Z9, ow9, om9, hZ9, hOE9, hdZ9, hoC9, hoW9, hoM9, ws9⟩ hC hx F4 N4 o1 o2x o3 hne2
          obtain ⟨on, ton, rfl, hon⟩ := hvs v (List.mem_of_getElem? (by simpa using hv))
          obtain ⟨hi9, ⟨es9, nn9, nat9, pr9, rfl, wk9, no9⟩, dd9, lo9⟩ := id ws9
          have a1 := allNe9_of o1
          have a2 := allNe9_of o2x
          have a3 := allNe9_of o3
          simp only [AllNe9, and_true] at a1 a2 a3
          refine and5 a1 fun a11 a12 a13 a14 _ => ?_
          refine and5 a2 fun a21 a22 a23 a24 _ => ?_
          refine and5 a3 fun a31 a32 a33 a34 _ => ?_
          obtain ⟨hic, hid, hcd⟩ := hne2
          have b1 := off_tl o1 (by k_extra "tlp")
          have b2 := off_tl o2x (by k_extra "tlp")
          have b3 := off_tl o3 (by k_extra "tlp")
          have b1E := off_appL b1
          have b1Z := off_appR b1
          have b2E := off_appL b2
          have b2Z := off_appR b2
          have b3E := off_appL b3
          have b3Z := off_appR b3
          k_extra "steps"
          rename_i x7 Z7 om7 h7 tk7 hZ7 hob7 hos7 F7 _ _ _ wes7 wnn7 _ _ _ _ hs7 N7 _ _ _ hoI7 hoC7 hoD7 hoX7 hoL7 hOE7
          refine CZ.intro F7 N7 ((dx1, dictOf es8 n8) :: (LC + 1, oC) :: (dW, dictOf wes7 wnn7) :: (mD, om7) :: (E ++ Z7)) (by k_extra "all") (off_cons a11 (off_cons a12 (off_cons a13 (off_cons a14 (off_join b1E hoI7))))) (off_cons a21 (off_cons a22 (off_cons a23 (off_cons a24 (off_join b2E hoC7))))) (off_cons a31 (off_cons a32 (off_cons a33 (off_cons a34 (off_join b3E hoD7))))) ⟨by simp [hyl], Z7, _, _, hZ9.trans hZ7, hOE7, hoX7, hoL7, hob7, hos7, hs7⟩
        · rintro ys nw ⟨hyl, Z9, ow9, om9, hZ9, hOE9, hdZ9, hoC9, hoW9, hoM9, ws9⟩
          obtain ⟨hi9, ⟨es9, nn9, nat9, pr9, rfl, wk9, no9⟩, dd9, lo9⟩ := id ws9
          refine finE ?_
          intro D' h' tk' F' N' o1
          have a1 := allNe9_of o1
          simp only [AllNe9, and_true] at a1
          refine and5 a1 fun a11 a12 a13 a14 _ => ?_
          have hx9 : (x1, instObj 407 dx1) ∈ Z9 := hZ9 _ (List.mem_cons_of_mem _ (hZ8 _ (hZ2 _ hx1)))
          have b1 := off_tl o1 (by k_extra "tlp")
          have b1E := off_appL b1
          have b1Z := off_appR b1
          obtain ⟨wk0', wt0', wkn'⟩ := WK.num wk9
          have hstp : StpIf := trivial
          obtain ⟨hnl1, hnl2, ⟨onat, hnm1, hnd1⟩, ⟨opre, hnm2, hnd2⟩⟩ := id no9
          have hbn : WSt w Z9 W dW mD (dictOf es9 nn9) om9 rd n := ws9.mono Ext.refl (by lia)
          k_extra "steps"
          refine Stp.in ?_
          rename_i es9' n9' md9' F9 N9
          cases hrd : rd with
          | false =>
            subst hrd
            k_extra "steps"
            rename_i kF kN _ _
            exact hret x1 Z9 _ _ _ _ ((hZ1.trans hZ2).trans (hZ8.trans (fun q hq => hZ9 q (List.mem_cons_of_mem _ hq)))) hOE9 hoW9 hoM9 hbn kF (nsub kN (by k_extra "all"))
          | true =>
            subst hrd
            k_extra "steps"
            rename_i kF kN _ _
            exact hret x1 Z9 _ _ _ _ ((hZ1.trans hZ2).trans (hZ8.trans (fun q hq => hZ9 q (List.mem_cons_of_mem _ hq)))) hOE9 hoW9 hoM9 hbn kF (nsub kN (by k_extra "all"))
        · exact ⟨(rfl : ([] : List Value).length = 0), _, _, _, Ext.refl, offAll_cons hOE8 hD8E, off_cons (by dsimp only; lia) hoD8, off_cons (by dsimp only; lia) hoC8, off_cons (by dsimp only; lia) hob8, off_cons (by dsimp only; lia) hos8, hs8.mono Ext.refl.cons (Nat.le_refl _)⟩
theorem blt_all (w : World) : ∀ n, BltC w n := fun n => Nat.strongRecOn n fun n IH => blt_step w n IH
end
section
section
variable {w : World} {p : Program} {loose : List Str} {mean : ExcName → Option Value} {mg mb : Str → Option Value} {dp un : Nat} {gd : Option (List Code)} {cn : Str} {cs : Scope} {a : Addr} {ccd : Value} {cl : List (Str × Addr)} {outer : List Env} {A₀ : Around} {base h₀ : Heap} {L : Addr} {m : Str → Option Value} {s : Shared} {Q E : Value → Shared → Prop}

theorem take_spec {box figs : Addr} {vs : List Value} {ds : List Int} {n n2 : Nat} {pos cnt sum many : Int} {t1 t2 t3 t4 : Tok} {Z : Led}
    (B : Below A₀ base outer h₀) (F : Fr h₀ L s.heap m) (X : (hd.heap_39 w.params).In h₀) (T : Top p loose mean mg mb h₀) (hk : cs.kind = .function) (hd : dp + 1 < recursionLimit) (hu : un + 8 < cLine)
    (N : News h₀ L s.heap ((box, PySem.W.listOf #[.ref figs, .int pos t1, .int cnt t2, .int sum t3] n) :: Z)) (hZ : ∀ p ∈ Z, p.1 ≠ box) (hf : (figs, PySem.W.listOf vs.toArray n2) ∈ Z) (hi : IntsAre vs ds)
    (hp : 0 ≤ pos) (hc : 0 ≤ cnt) (hm : 0 < many) (hlen : ds.length < 1000) (hc' : cnt < 10000) (hm2 : many < 100)
    (hret : ∀ r t pos' cnt' t1' t2' t3' h' tk', 0 ≤ r → r < many → 0 ≤ pos' → 0 ≤ cnt' → cnt' ≤ cnt + 1 → Fr h₀ L h' m → News h₀ L h' ((box, PySem.W.listOf #[.ref figs, .int pos' t1', .int cnt' t2', .int sum t3'] n) :: Z) → Q (.int r t) { s with heap := h', toks := tk' }) :
    wpAny (model PG w) (ktrTop dp un gd cn cs L a ccd cl outer) (call (.ref 860) [.ref box, .int many t4]) Q E s := by
  refine @wpAny_call _ _ _ _ _ _ _ _ ?_
  k_dflt k_extra "enterC"
  k_extra "steps"
  · refine hret _ _ _ _ _ _ _ _ _ ?_ ?_ ?_ ?_ ?_ (by assumption) (by assumption)
    · exact Int.fmod_nonneg_of_pos _ hm
    · exact Int.fmod_lt_of_pos _ hm
    · lia
    · lia
    · lia
  · refine hret _ _ _ _ _ _ _ _ _ ?_ ?_ ?_ ?_ ?_ (by assumption) (by assumption)
    · exact Int.fmod_nonneg_of_pos _ hm
    · exact Int.fmod_lt_of_pos _ hm
    · lia
    · lia
    · lia

theorem take_use {box : Addr} {o : Obj} {c : Nat} {many : Int} {t4 : Tok} {Z R news : Led}
    (B : Below A₀ base outer h₀) (F : Fr h₀ L s.heap m) (X : (hd.heap_39 w.params).In h₀) (T : Top p loose mean mg mb h₀) (hk : cs.kind = .function) (hd : dp + 1 < recursionLimit) (hu : un + 8 < cLine)
    (N : News h₀ L s.heap news) (P : Pick box o news R) (hb : BoxOk Z o (c + 1)) (hZ : Ext Z R) (ho : ∀ p ∈ R, p.1 ≠ box) (hm : 0 < many) (hm2 : many < 100)
    (hret : ∀ r t o' h' tk', 0 ≤ r → r < many → BoxOk Z o' c → Fr h₀ L h' m → News h₀ L h' ((box, o') :: R) → Q (.int r t) { s with heap := h', toks := tk' }) :
    wpAny (model PG w) (ktrTop dp un gd cn cs L a ccd cl outer) (call (.ref 860) [.ref box, .int many t4]) Q E s := by
  obtain ⟨figs, vs, ds, n, n2, pos, cnt, sum, t1, t2, t3, rfl, b, d, e1, e2, e3, e4, e5⟩ := hb
  refine @take_spec _ _ _ _ _ _ _ _ _ _ _ _ _ _ _ _ _ _ _ _ _ _ _ _ _ _ _ _ _ _ _ _ _ _ _ _ _ _ B F X T hk hd hu (nsub N P.sub) ho (hZ _ b) d e1 e2 hm e5 (by lia) hm2 ?_
  intro r t pos' cnt' t1' t2' t3' h' tk' r1 r2 p1 c1 c2 F' N'
  exact hret r t _ h' tk' r1 r2 ⟨figs, vs, ds, n, n2, pos', cnt', sum, t1', t2', t3', rfl, b, d, p1, c1, by lia, e4, e5⟩ F' N'
end
end
section
section
variable {w : World} {p : Program} {loose : List Str} {mean : ExcName → Option Value} {mg mb : Str → Option Value} {dp un : Nat} {gd : Option (List Code)} {cn : Str} {cs : Scope} {a : Addr} {ccd : Value} {cl : List (Str × Addr)} {outer : List Env} {A₀ : Around} {base h₀ : Heap} {L : Addr} {m : Str → Option Value} {s : Shared} {Q E : Value → Shared → Prop}

theorem name_use {box single : Addr} {o o2 : Obj} {c : Nat} {Z R R1 news : Led}
    (B : Below A₀ base outer h₀) (F : Fr h₀ L s.heap m) (X : (hd.heap_39 w.params).In h₀) (T : Top p loose mean mg mb h₀) (hk : cs.kind = .function) (hd : dp + 2 < recursionLimit) (hu : un + 16 < cLine)
    (N : News h₀ L s.heap news) (P : Pick box o news R1) (P2 : Pick single o2 R1 R) (hb : BoxOk Z o (c + 1)) (hs : SgOk o2 (c + 1)) (hZ : Ext Z R) (hne : @Ne Nat box single) (ho : ∀ p ∈ R, p.1 ≠ box) (ho2 : ∀ p ∈ R, p.1 ≠ single)
    (hret : ∀ x t o' o2' h' tk', x.length ≤ 20000 → BoxOk Z o' c → SgOk o2' c → Fr h₀ L h' m → News h₀ L h' ((box, o') :: (single, o2') :: R) → Q (.str x t) { s with heap := h', toks := tk' }) :
    wpAny (model PG w) (ktrTop dp un gd cn cs L a ccd cl outer) (call (.ref 867) [.ref box, .ref single]) Q E s := by
  have N1 : News h₀ L s.heap ((box, o) :: (single, o2) :: R) := nsub N fun p hp => P.sub _ (by
    rcases List.mem_cons.mp hp with rfl | hp
    · exact List.mem_cons_self
    · exact List.mem_cons_of_mem _ (P2.sub _ hp))
  obtain ⟨its, n, rfl, hsz⟩ := hs
  clear N P P2
  refine @wpAny_call _ _ _ _ _ _ _ _ ?_
  k_dflt k_extra "enterC"
  k_extra "steps"
  · refine' hret _ _ _ _ _ _ ?zl9 ?zb9 ?zs9 (by assumption) (nsub (by assumption) ?zu9)
    case zu9 => k_extra "all"
    case zb9 => assumption
    case zl9 => assumption
    case zs9 => exact ⟨_, _, rfl, by lia⟩
  · refine' hret _ _ _ _ _ _ ?zl9 ?zb9 ?zs9 (by assumption) (nsub (by assumption) ?zu9)
    case zu9 => k_extra "all"
    case zb9 => assumption
    case zl9 =>
      rename_i hlen _ _ _ _
      have h9 := len_str_of_int (its.size : Int)
      have h8 : (Str.ofString "u").length = 1 := by decide
      lia
    case zs9 => exact ⟨_, _, rfl, by simp only [Array.size_push]; lia⟩
end
end
section
section
variable {w : World} {p : Program} {loose : List Str} {mean : ExcName → Option Value} {mg mb : Str → Option Value} {dp un : Nat} {gd : Option (List Code)} {cn : Str} {cs : Scope} {a : Addr} {ccd : Value} {cl : List (Str × Addr)} {outer : List Env} {A₀ : Around} {base h₀ : Heap} {L : Addr} {m : Str → Option Value} {s : Shared} {Q E' : Value → Shared → Prop}

inductive PlaJ (found box single : Addr) (E Z : Led) (c : Nat) (i : Nat) : Led → Prop
  | mk (vs) (nl) (pl) (o') (o2') (Zi) (c1 : Ext Z Zi) (c2 : OffAll E Zi) (c3 : (∀ q ∈ Zi, q.1 ≠ found)) (c4 : (∀ q ∈ Zi, q.1 ≠ box)) (c5 : (∀ q ∈ Zi, q.1 ≠ single)) (c6 : BoxOk Zi o' (c + 3 * (2 - i))) (c7 : SgOk o2' (c + 3 * (2 - i))) (c8 : pl.length = i) (c9 : All2 (RPl Zi) vs pl) : PlaJ found box single E Z c i ((found, PySem.W.listOf (vs : List Value).toArray nl) :: (box, o') :: (single, o2') :: (E ++ Zi))
theorem places_use {box single : Addr} {o o2 : Obj} {c : Nat} {Z R R1 E news : Led}
    (B : Below A₀ base outer h₀) (F : Fr h₀ L s.heap m) (X : (hd.heap_39 w.params).In h₀) (T : Top p loose mean mg mb h₀) (hk : cs.kind = .function) (hd : dp + 3 < recursionLimit) (hu : un + 24 < cLine)
    (N : News h₀ L s.heap news) (P : Pick box o news R1) (P2 : Pick single o2 R1 R) (S : Spl Z R E) (hb : BoxOk Z o (c + 7)) (hs : SgOk o2 (c + 7)) (hne : @Ne Nat box single) (ho : ∀ p ∈ R, p.1 ≠ box) (ho2 : ∀ p ∈ R, p.1 ≠ single) (hE : OffAll E Z)
    (hret : ∀ lf vs nl pl Z' o' o2' h' tk', Ext Z Z' → OffAll E Z' → (∀ p ∈ Z', p.1 ≠ box) → (∀ p ∈ Z', p.1 ≠ single) → BoxOk Z' o' c → SgOk o2' c → pl.length ≤ 2 → (lf, PySem.W.listOf (vs : List Value).toArray nl) ∈ Z' → All2 (RPl Z') vs pl →
      Fr h₀ L h' m → News h₀ L h' ((box, o') :: (single, o2') :: (E ++ Z')) → Q (.ref lf) { s with heap := h', toks := tk' }) :
    wpAny (model PG w) (ktrTop dp un gd cn cs L a ccd cl outer) (call (.ref 874) [.ref box, .ref single]) Q E' s := by
  have N1 : News h₀ L s.heap ((box, o) :: (single, o2) :: (E ++ Z)) := nsub N fun p hp => P.sub _ (by
    rcases List.mem_cons.mp hp with rfl | hp
    · exact List.mem_cons_self
    · exact List.mem_cons_of_mem _ (P2.sub _ (S.eq ▸ hp)))
  rw [S.eq] at ho ho2
  clear N P P2 S
  refine @wpAny_call _ _ _ _ _ _ _ _ ?_
  k_dflt k_extra "enterC"
  k_extra "steps"
  refine Stp.in ?_
  rename_i found _ l1 hot _ r t o1 h1 tk1 hr1 hr2 hb1 h2 tk2 a1 a2 a3 R1 F1 N1 ha
  have hE1 := off_appL hot
  have hZ1 := off_appR hot
  have hEb := off_appL ho
  have hZb := off_appR ho
  have hEs := off_appL ho2
  have hZs := off_appR ho2
  refine @rangeZ _ _ _ _ _ _ _ _ _ _ _ _ _ _ _ _ _ [] r.toNat (PlaJ found box single E Z c) rfl R1 (by lia) (by lia) rfl F1 (nsub (news' := (found, PySem.W.listOf #[] 0) :: (box, o1) :: (single, o2) :: (E ++ Z)) N1 (by k_extra "all")) ?_ ?_ ?_
  · exact ⟨[], 0, [], o1, o2, Z, Ext.refl, hE, hZ1, hZb, hZs, hb1, hs.mono (by lia), rfl, .nil⟩
  · rintro i t u n₁ I io h tk hi ⟨vs, nl, pl, oi, o2i, Zi, hZi, hEi, hof, hob, hos, hbi, hsi, hpl, hall⟩ hI F2 N2
    refine off3 hI fun hI1 hI2 hI3 hI4 => ?_
    have hi1 : i ≤ 1 := by lia
    replace hbi : BoxOk Zi oi (c + 3 * (1 - i) + 3) := hbi.mono Ext.refl (three_le c hi1)
    replace hsi : SgOk o2i (c + 3 * (1 - i) + 3) := hsi.mono (three_le c hi1)
    dsimp only [en, envOf] at F2 N2
    have hvl := hall.len
    k_extra "steps"
    · rename_i D _ lD hotD _ FD ND
      simp only [List.push_toArray] at ND
      have hED := off_appL hotD
      have hZD := off_appR hotD
      refine turnZ FD ND (fun y h1 h2 => by simp [h1]) ((found, _) :: (box, _) :: (single, _) :: (E ++ ((D, _) :: Zi))) (by k_extra "all") ?_ ?_
      · refine off_cons (by dsimp only; lia) (off_cons (by dsimp only; lia) (off_cons (by dsimp only; lia) (off_join (off_app hI4).1 (off_cons (by dsimp only; lia) (off_app hI4).2))))
      · exact ⟨_, _, pl ++ [.gp _ _], _, _, _, hZi.cons, offAll_cons hEi hED, off_cons (by dsimp only; lia) hof, off_cons (by dsimp only; lia) hob, off_cons (by dsimp only; lia) hos, BoxOk.mono (by assumption) (Ext.cons Ext.refl) (by lia), SgOk.mono (by assumption) (by lia), by simp [hpl], (hall.mono (RPl.mono (Ext.cons Ext.refl))).snoc (RPl.mkG List.mem_cons_self)⟩
    · rename_i FD ND
      simp only [List.push_toArray] at ND
      refine turnZ FD ND (fun y h1 h2 => by simp [h1]) ((found, _) :: (box, _) :: (single, _) :: (E ++ Zi)) (by k_extra "all") ?_ ?_
      · refine off_cons (by dsimp only; lia) (off_cons (by dsimp only; lia) (off_cons (by dsimp only; lia) hI4))
      · exact ⟨_, _, pl ++ [.nm _], _, _, _, hZi, hEi, hof, hob, hos, BoxOk.mono (by assumption) Ext.refl (by lia), SgOk.mono (by assumption) (by lia), by simp [hpl], hall.snoc RPl.mkN⟩
  · rintro u n₁ h tk ⟨vs, nl, pl, oi, o2i, Zi, hZi, hEi, hof, hob, hos, hbi, hsi, hpl, hall⟩ F2 N2
    dsimp only [en, envOf] at F2 N2
    k_extra "steps"
    rename_i kF kN _ _
    refine hret found vs nl pl ((found, _) :: Zi) _ _ _ _ hZi.cons (offAll_cons hEi hE1) (off_cons (by dsimp only; lia) hob) (off_cons (by dsimp only; lia) hos) (hbi.mono (Ext.cons Ext.refl) (by lia)) (hsi.mono (by lia)) (by lia) List.mem_cons_self (hall.mono (RPl.mono (Ext.cons Ext.refl))) kF (nsub kN (by k_extra "all"))
end
end
section
section
variable {w : World} {p : Program} {loose : List Str} {mean : ExcName → Option Value} {mg mb : Str → Option Value} {dp un : Nat} {gd : Option (List Code)} {cn : Str} {cs : Scope} {a : Addr} {ccd : Value} {cl : List (Str × Addr)} {outer : List Env} {A₀ : Around} {base h₀ : Heap} {L : Addr} {m : Str → Option Value} {s : Shared} {Q E' : Value → Shared → Prop}

inductive RowJ (opt box single : Addr) (E Z1 : Led) (c : Nat) (i : Nat) : Led → Prop
  | mk (vs) (nl) (ops) (o') (o2') (c1 : BoxOk Z1 o' (c + 11 + (2 - i))) (c2 : SgOk o2' (c + 11 + (2 - i))) (c3 : ops.length = i) (c4 : All2 StrV vs ops) : RowJ opt box single E Z1 c i ((opt, PySem.W.listOf (vs : List Value).toArray nl) :: (box, o') :: (single, o2') :: (E ++ Z1))
inductive RowK (opt box single : Addr) (ov : List Value) (no : Nat) (E Z1 : Led) (c : Nat) (v : Value) : Led → Prop
  | mk (r) (o') (o2') (c1 : OptV v r) (c2 : BoxOk Z1 o' (c + 9)) (c3 : SgOk o2' (c + 9)) (c4 : (∀ x, r = some x → x.length ≤ 20000)) : RowK opt box single ov no E Z1 c v ((opt, PySem.W.listOf ov.toArray no) :: (box, o') :: (single, o2') :: (E ++ Z1))
theorem row_use {box single : Addr} {o o2 : Obj} {c : Nat} {Z R R1 E news : Led}
    (B : Below A₀ base outer h₀) (F : Fr h₀ L s.heap m) (X : (hd.heap_39 w.params).In h₀) (T : Top p loose mean mg mb h₀) (hk : cs.kind = .function) (hd : dp + 4 < recursionLimit) (hu : un + 32 < cLine)
    (N : News h₀ L s.heap news) (P : Pick box o news R1) (P2 : Pick single o2 R1 R) (S : Spl Z R E) (hb : BoxOk Z o (c + 21)) (hs : SgOk o2 (c + 21)) (hne : @Ne Nat box single) (ho : ∀ p ∈ R, p.1 ≠ box) (ho2 : ∀ p ∈ R, p.1 ≠ single) (hE : OffAll E Z)
    (hret : ∀ ra R Z' o' o2' h' tk', Ext Z Z' → OffAll E Z' → (∀ p ∈ Z', p.1 ≠ box) → BoxOk Z' o' c → RowAt Z' ra R →
      Fr h₀ L h' m → News h₀ L h' ((box, o') :: (single, o2') :: (E ++ Z')) → Q (.ref ra) { s with heap := h', toks := tk' }) :
    wpAny (model PG w) (ktrTop dp un gd cn cs L a ccd cl outer) (call (.ref 881) [.ref box, .ref single]) Q E' s := by
  have N1 : News h₀ L s.heap ((box, o) :: (single, o2) :: (E ++ Z)) := nsub N fun p hp => P.sub _ (by
    rcases List.mem_cons.mp hp with rfl | hp
    · exact List.mem_cons_self
    · exact List.mem_cons_of_mem _ (P2.sub _ (S.eq ▸ hp)))
  rw [S.eq] at ho ho2
  clear N P P2 S
  have hEb := off_appL ho
  have hZb := off_appR ho
  have hEs := off_appL ho2
  have hZs := off_appR ho2
  refine @wpAny_call _ _ _ _ _ _ _ _ ?_
  k_dflt k_extra "enterC"
  k_extra "steps"
  refine Stp.in ?_
  rename_i lf fv nf fp Z1 ob1 os1 _ _ hZ1 hOE hOb hOs hb1 hs1 hfp hmf hfv opt _ l1 hot _ _ _ _ _ _ _ r t ob2 _ _ hr1 hr2 hb2 _ _ _ _ _ R1' F1 N1' _
  have hEo := off_appL hot
  have hZo := off_appR hot
  refine @rangeZ _ _ _ _ _ _ _ _ _ _ _ _ _ _ _ _ _ [] r.toNat (RowJ opt box single E Z1 c) rfl R1' (by lia) (by lia) rfl F1 (nsub (news' := (opt, PySem.W.listOf #[] 0) :: (box, ob2) :: (single, os1) :: (E ++ Z1)) N1' (by k_extra "all")) ?_ ?_ ?_
  · exact ⟨[], 0, [], _, _, hb2, hs1.mono (by lia), rfl, .nil⟩
  · rintro i t u n₁ I io h tk hi ⟨vs, nl, ops, oi, o2i, hbi, hsi, hpl, hall⟩ hI F2 N2
    refine off3 hI fun hI1 hI2 hI3 hI4 => ?_
    replace hbi : BoxOk Z1 oi (c + 11 + (1 - i) + 1) := hbi.mono Ext.refl (by lia)
    replace hsi : SgOk o2i (c + 11 + (1 - i) + 1) := hsi.mono (by lia)
    dsimp only [en, envOf] at F2 N2
    have hvl := hall.len
    k_extra "steps"
    rename_i FD ND
    simp only [List.push_toArray] at ND
    refine turnZ FD ND (fun y h1 h2 => by simp [h1]) ((opt, _) :: (box, _) :: (single, _) :: (E ++ Z1)) (by k_extra "all") ?_ ?_
    · refine off_cons (by dsimp only; lia) (off_cons (by dsimp only; lia) (off_cons (by dsimp only; lia) hI4))
    · exact ⟨_, _, ops ++ [_], _, _, BoxOk.mono (by assumption) Ext.refl (by lia), SgOk.mono (by assumption) (by lia), by simp [hpl], hall.snoc ⟨_, rfl⟩⟩
  · rintro u n₁ h tk ⟨ov, no, ops, oi, o2i, hbi, hsi, hpl, hov⟩ F2 N2
    dsimp only [en, envOf] at F2 N2
    replace hbi : BoxOk Z1 oi (c + 11) := hbi.mono Ext.refl (by lia)
    replace hsi : SgOk o2i (c + 11) := hsi.mono (by lia)
    have hstp : StpIf := trivial
    k_extra "steps"
    refine Stp.in ?_
    rename_i _ _ ob3 _ _ _ _ hb3 _ F3 N3
    refine @cutE _ _ _ _ _ _ _ _ _ (RowK opt box single ov no E Z1 c) F3 ?_ ?_
    · k_extra "steps"
      · exact CutP.intro (by assumption) N3 _ (by k_extra "all") ⟨none, _, _, rfl, hb3.mono Ext.refl (by lia), hsi.mono (by lia), fun x e => nomatch e⟩
      · exact CutP.intro (by assumption) N3 _ (by k_extra "all") ⟨some _, _, _, ⟨_, rfl⟩, hb3.mono Ext.refl (by lia), hsi.mono (by lia), fun x e => by cases e; decide⟩
      · exact CutP.intro (by assumption) (by assumption) _ (by k_extra "all") ⟨some _, _, _, ⟨_, rfl⟩, by assumption, SgOk.mono (by assumption) (by lia), fun x e => by cases e; assumption⟩
    · rintro rv h4 tk4 n4 F4 N4 ⟨re, ob4, os4, hre, hb4, hs4, hrl⟩
      k_extra "steps"
      · rename_i lb bv nb bp Z2 _ _ _ _ hZ2 hOb2 _ _ hs2 hbp hmb hbv hoo hOE2 _ _ _ _ _ _ _ _ _ _ xb _ _ _ _ _ _ hb6 _ D _ _ _ lD hotD kF kN _ _
        have hED := off_appL hotD
        have hZD := off_appR hotD
        refine hret D ⟨fp, ops, re, bp, some xb⟩ ((D, _) :: (opt, _) :: Z2) _ _ _ _ ((hZ1.trans hZ2).cons.cons) (offAll_cons (offAll_cons hOE2 hEo) hED) (off_cons (by dsimp only; lia) (off_cons (by dsimp only; lia) hOb2)) (hb6.mono (Ext.refl.cons.cons) (Nat.le_refl _))
          ⟨lf, opt, lb, fv, ov, bv, nf, no, nb, rv, _, List.mem_cons_self, List.mem_cons_of_mem _ (List.mem_cons_of_mem _ (hZ2 _ hmf)), List.mem_cons_of_mem _ List.mem_cons_self, List.mem_cons_of_mem _ (List.mem_cons_of_mem _ hmb), hfv.mono (RPl.mono (hZ2.cons.cons)), hov, hre, hbv.mono (RPl.mono (Ext.refl.cons.cons)), ⟨_, rfl⟩, hfp, by dsimp only; lia, hbp, hrl⟩ kF (nsub kN (by k_extra "all"))
      · rename_i lb bv nb bp Z2 _ _ _ _ hZ2 hOb2 _ _ hs2 hbp hmb hbv hoo hOE2 _ _ _ _ _ _ _ _ hb6 _ D _ _ _ lD hotD kF kN _ _
        have hED := off_appL hotD
        have hZD := off_appR hotD
        refine hret D ⟨fp, ops, re, bp, none⟩ ((D, _) :: (opt, _) :: Z2) _ _ _ _ ((hZ1.trans hZ2).cons.cons) (offAll_cons (offAll_cons hOE2 hEo) hED) (off_cons (by dsimp only; lia) (off_cons (by dsimp only; lia) hOb2)) (hb6.mono (Ext.refl.cons.cons) (by lia))
          ⟨lf, opt, lb, fv, ov, bv, nf, no, nb, rv, _, List.mem_cons_self, List.mem_cons_of_mem _ (List.mem_cons_of_mem _ (hZ2 _ hmf)), List.mem_cons_of_mem _ List.mem_cons_self, List.mem_cons_of_mem _ (List.mem_cons_of_mem _ hmb), hfv.mono (RPl.mono (hZ2.cons.cons)), hov, hre, hbv.mono (RPl.mono (Ext.refl.cons.cons)), rfl, hfp, by dsimp only; lia, hbp, hrl⟩ kF (nsub kN (by k_extra "all"))
end
end
section
inductive PEnts (es : List DictEntry) (lr lo : Addr) (rv : Value) (lp : Addr) (bv : Value) : Prop
  | mk (h1 h2 h3 h4 h5 : Int) (t1 t2 t3 t4 t5 : Tok) (e : es = [⟨h1, .str (Str.ofString "required") t1, .ref lr⟩, ⟨h2, .str (Str.ofString "optional") t2, .ref lo⟩, ⟨h3, .str (Str.ofString "rest") t3, rv⟩, ⟨h4, .str (Str.ofString "post") t4, .ref lp⟩, ⟨h5, .str (Str.ofString "block") t5, bv⟩])
inductive ParAt (Z : Led) (x : Addr) (va vb : List Value) (rv : Value) (vc : List Value) (bv : Value) : Prop
  | mk (dx lr lo lp : Addr) (nr no np : Nat) (es : List DictEntry) (n : Nat) (h1 : (x, instObj 198 dx) ∈ Z) (h2 : (dx, dictOf es n) ∈ Z) (h3 : PEnts es lr lo rv lp bv) (h4 : (lr, PySem.W.listOf va.toArray nr) ∈ Z) (h5 : (lo, PySem.W.listOf vb.toArray no) ∈ Z) (h6 : (lp, PySem.W.listOf vc.toArray np) ∈ Z)
theorem ParAt.mono {Z Z' : Led} (e : Ext Z Z') {x : Addr} {va vb vc : List Value} {rv bv : Value} (h : ParAt Z x va vb rv vc bv) : ParAt Z' x va vb rv vc bv := by
  obtain ⟨dx, lr, lo, lp, nr, no, np, es, n, h1, h2, h3, h4, h5, h6⟩ := h
  exact ⟨dx, lr, lo, lp, nr, no, np, es, n, e _ h1, e _ h2, h3, e _ h4, e _ h5, e _ h6⟩
section
variable {w : World} {p : Program} {loose : List Str} {mean : ExcName → Option Value} {mg mb : Str → Option Value} {dp un : Nat} {gd : Option (List Code)} {cn : Str} {cs : Scope} {a : Addr} {ccd : Value} {cl : List (Str × Addr)} {outer : List Env} {A₀ : Around} {base h₀ : Heap} {L : Addr} {m : Str → Option Value} {s : Shared} {Q E' : Value → Shared → Prop}

theorem par_use {l1 l2 l3 : Addr} {va vb vc : List Value} {na nb nc : Nat} {rv bv : Value} {Z E news : Led}
    (B : Below A₀ base outer h₀) (F : Fr h₀ L s.heap m) (X : (hd.heap_39 w.params).In h₀) (T : Top p loose mean mg mb h₀) (hk : cs.kind = .function) (hd : dp + 2 < recursionLimit) (hu : un + 32 < cLine)
    (N : News h₀ L s.heap news) (S : Spl Z news E) (hE : OffAll E Z) (m1 : (l1, PySem.W.listOf va.toArray na) ∈ news) (m2 : (l2, PySem.W.listOf vb.toArray nb) ∈ news) (m3 : (l3, PySem.W.listOf vc.toArray nc) ∈ news) (hv : va.length ≤ 10000) (hb : vb.length ≤ 10000) (hc : vc.length ≤ 10000)
    (hret : ∀ x Z' h' tk', Ext Z Z' → OffAll E Z' → ParAt Z' x va vb rv vc bv → Fr h₀ L h' m → News h₀ L h' (E ++ Z') → Q (.ref x) { s with heap := h', toks := tk' }) :
    wpAny (model PG w) (ktrTop dp un gd cn cs L a ccd cl outer) (call (.ref 198) [.ref l1, .ref l2, rv, .ref l3, bv]) Q E' s := by
  have e := S.eq
  subst e
  clear S
  k_dflt k_extra "cb"
  k_extra "steps"
  rename_i x0 d0 _ _ _ l0 l2x _ _ _ _ _ _ _ D2 c2 _ l2 hot2 _ D1 c1 _ l1' hot1 _ _ D0 c0 _ l0' hot0 _ _ F' N' kF kN _ _
  have hd : ∀ q ∈ E ++ Z, q.1 ≠ d0 := fun q hq => Nat.ne_of_lt (l0 q hq)
  have hx : ∀ q ∈ E ++ Z, q.1 ≠ x0 := fun q hq => Nat.ne_of_lt (Nat.lt_trans (l0 q hq) l2x)
  refine hret x0 ((D0, _) :: (D1, _) :: (D2, _) :: (x0, _) :: (d0, _) :: Z) _ _ (Ext.refl.cons.cons.cons.cons.cons) (offAll_cons (offAll_cons (offAll_cons (offAll_cons (offAll_cons hE (off_app hd).1) (off_app hx).1) (off_app hot2).1) (off_app hot1).1) (off_app hot0).1)
    ⟨d0, D2, D1, D0, c2, c1, c0, _, _, by k_mem, by k_mem, ⟨_, _, _, _, _, _, _, _, _, _, rfl⟩, by k_mem, by k_mem, by k_mem⟩ kF (nsub kN (by k_extra "all"))
end
end
section
section
variable {w : World} {p : Program} {loose : List Str} {mean : ExcName → Option Value} {mg mb : Str → Option Value} {dp un : Nat} {gd : Option (List Code)} {cn : Str} {cs : Scope} {a : Addr} {ccd : Value} {cl : List (Str × Addr)} {outer : List Env} {A₀ : Around} {base h₀ : Heap} {L : Addr} {m : Str → Option Value} {s : Shared} {Q E' : Value → Shared → Prop}

theorem node_use {tp : Addr} {t : Tok} {Z E news : Led}
    (B : Below A₀ base outer h₀) (F : Fr h₀ L s.heap m) (X : (hd.heap_39 w.params).In h₀) (T : Top p loose mean mg mb h₀) (hk : cs.kind = .function) (hd : dp + 2 < recursionLimit) (hu : un + 32 < cLine)
    (N : News h₀ L s.heap news) (S : Spl Z news E) (hE : OffAll E Z) (m1 : (tp, tupOf #[]) ∈ news)
    (hret : ∀ x Z' h' tk', Ext Z Z' → OffAll E Z' → Fr h₀ L h' m → News h₀ L h' (E ++ Z') → Q (.ref x) { s with heap := h', toks := tk' }) :
    wpAny (model PG w) (ktrTop dp un gd cn cs L a ccd cl outer) (call (.ref 166) [.str (Str.ofString "nil") t, .ref tp]) Q E' s := by
  have e := S.eq
  subst e
  clear S
  k_dflt k_extra "cb"
  rename_i x0 d0 _ _ _ l0 l2x _ _ _ _ _ _ _ _ _
  have hd : ∀ q ∈ E ++ Z, q.1 ≠ d0 := fun q hq => Nat.ne_of_lt (l0 q hq)
  have hx : ∀ q ∈ E ++ Z, q.1 ≠ x0 := fun q hq => Nat.ne_of_lt (Nat.lt_trans (l0 q hq) l2x)
  k_extra "steps"
  rename_i kF kN _ _
  refine hret x0 ((x0, _) :: (d0, _) :: Z) _ _ (Ext.refl.cons.cons) (offAll_cons (offAll_cons hE (off_app hd).1) (off_app hx).1) kF (nsub kN (by k_extra "all"))
end
end
section
def sideOf (R : Row) : Nat → List Pl
  | 0 => R.fr
  | _ => R.ba
def PPl (Z : Led) (v : Value) : Pl → Prop
  | .nm x => ∃ t, v = .str x t
  | .gp x y => ∃ a t u, v = .ref a ∧ ParAt Z a [.str x t, .str y u] [] .none [] .none
theorem PPl.mono {Z Z' : Led} (e : Ext Z Z') : ∀ v pl, PPl Z v pl → PPl Z' v pl
  | _, .nm _, h => h
  | _, .gp _ _, h => let ⟨a, t, u, h1, h2⟩ := h; ⟨a, t, u, h1, h2.mono e⟩
inductive SideV (Z : Led) (v : Value) (pls : List Pl) : Prop
  | mk (l : Addr) (xs : List Value) (n : Nat) (e : v = .ref l) (h : (l, PySem.W.listOf xs.toArray n) ∈ Z) (a : All2 (PPl Z) xs pls)
theorem SideV.mono {Z Z' : Led} (e : Ext Z Z') : ∀ v pls, SideV Z v pls → SideV Z' v pls := fun _ _ ⟨l, xs, n, h1, h2, h3⟩ => ⟨l, xs, n, h1, e _ h2, h3.mono (PPl.mono e)⟩
inductive OpV (Z : Led) (v : Value) (x : Str) : Prop
  | mk (a : Addr) (t : Tok) (nd : Value) (e : v = .ref a) (h : (a, tupOf #[.str x t, nd]) ∈ Z)
theorem OpV.mono {Z Z' : Led} (e : Ext Z Z') : ∀ v x, OpV Z v x → OpV Z' v x := fun _ _ ⟨a, t, nd, h1, h2⟩ => ⟨a, t, nd, h1, e _ h2⟩
inductive MadeAt (Z : Led) (a : Addr) (R : Row) : Prop
  | mk (va vb : List Value) (rv : Value) (vc : List Value) (bv : Value) (h1 : ParAt Z a va vb rv vc bv) (h2 : All2 (PPl Z) va R.fr) (h3 : All2 (OpV Z) vb R.op) (h4 : OptV rv R.re) (h5 : All2 (PPl Z) vc R.ba) (h6 : OptV bv R.bl) (h7 : R.fr.length ≤ 2) (h8 : R.op.length ≤ 2) (h9 : R.ba.length ≤ 2)
theorem MadeAt.mono {Z Z' : Led} (e : Ext Z Z') {a : Addr} {R : Row} (h : MadeAt Z a R) : MadeAt Z' a R := by
  obtain ⟨va, vb, rv, vc, bv, h1, h2, h3, h4, h5, h6, h7, h8, h9⟩ := h
  exact ⟨va, vb, rv, vc, bv, h1.mono e, h2.mono (PPl.mono e), h3.mono (OpV.mono e), h4, h5.mono (PPl.mono e), h6, h7, h8, h9⟩
section
variable {w : World} {p : Program} {loose : List Str} {mean : ExcName → Option Value} {mg mb : Str → Option Value} {dp un : Nat} {gd : Option (List Code)} {cn : Str} {cs : Scope} {a : Addr} {ccd : Value} {cl : List (Str × Addr)} {outer : List Env} {A₀ : Around} {base h₀ : Heap} {L : Addr} {m : Str → Option Value} {s : Shared} {Q E' : Value → Shared → Prop}

inductive MadJ (sd D : Addr) (lf lb : Addr) (R : Row) (E Z : Led) (i : Nat) : Led → Prop
  | mk (vs) (nl) (Zi) (c1 : Ext ((D, tupOf #[.ref lf, .ref lb]) :: Z) Zi) (c2 : OffAll E Zi) (c3 : (∀ q ∈ Zi, q.1 ≠ sd)) (c4 : vs.length = i) (c5 : All2 (SideV Zi) vs ((List.range i).map (sideOf R))) : MadJ sd D lf lb R E Z i ((sd, PySem.W.listOf (vs : List Value).toArray nl) :: (E ++ Zi))
inductive MadK (I : Addr) (io : Obj) (sd : Addr) (vs : List Value) (nl : Nat) (R : Row) (i : Nat) (E Zi : Led) (j : Nat) (ys : List Value) : Led → Prop
  | mk (Zj) (c1 : Ext Zi Zj) (c2 : OffAll E Zj) (c3 : (∀ q ∈ Zj, q.1 ≠ sd)) (c4 : (∀ q ∈ Zj, q.1 ≠ I)) (c5 : ys.length = j) (c6 : All2 (PPl Zj) ys ((sideOf R i).take j)) : MadK I io sd vs nl R i E Zi j ys ((I, io) :: (sd, PySem.W.listOf vs.toArray nl) :: (E ++ Zj))
inductive MadM (sd sa sb : Addr) (nl : Nat) (R : Row) (E Zi : Led) (j : Nat) (ys : List Value) : Led → Prop
  | mk (Zj) (c1 : Ext Zi Zj) (c2 : OffAll E Zj) (c3 : (∀ q ∈ Zj, q.1 ≠ sd)) (c4 : ys.length = j) (c5 : All2 (OpV Zj) ys (R.op.take j)) : MadM sd sa sb nl R E Zi j ys ((sd, PySem.W.listOf #[.ref sa, .ref sb] nl) :: (E ++ Zj))
theorem made_use {ra : Addr} {R : Row} {Z E news : Led}
    (B : Below A₀ base outer h₀) (F : Fr h₀ L s.heap m) (X : (hd.heap_39 w.params).In h₀) (T : Top p loose mean mg mb h₀) (hk : cs.kind = .function) (hd : dp + 4 < recursionLimit) (hu : un + 48 < cLine)
    (N : News h₀ L s.heap news) (S : Spl Z news E) (hE : OffAll E Z) (hR : RowAt Z ra R)
    (hret : ∀ pa Z' h' tk', Ext Z Z' → OffAll E Z' → MadeAt Z' pa R →
      Fr h₀ L h' m → News h₀ L h' (E ++ Z') → Q (.ref pa) { s with heap := h', toks := tk' }) :
    wpAny (model PG w) (ktrTop dp un gd cn cs L a ccd cl outer) (call (.ref 886) [.ref ra]) Q E' s := by
  have N1 : News h₀ L s.heap (E ++ Z) := S.eq ▸ N
  clear N S
  obtain ⟨lf, lo, lb, fv, ov, bv, nf, no, nb, rv, blv, h1, h2, h3, h4, h5, h6, h7, h8, h9, h10, h11, h12, hxl⟩ := hR
  refine @wpAny_call _ _ _ _ _ _ _ _ ?_
  k_dflt k_extra "enterC"
  k_extra "steps"
  refine Stp.in ?_
  rename_i sd _ lsd _ D _ F1 N1' lD hotD
  have hotS : ∀ q ∈ E ++ Z, q.1 ≠ sd := fun q hq => Nat.ne_of_lt (lsd q hq)
  have hES := off_appL hotS
  have hZS := off_appR hotS
  have hED := off_appL hotD
  have hZD := off_appR hotD
  refine tupT (vs := [.ref lf, .ref lb]) [Str.ofString "side"] (MadJ sd D lf lb R E Z) rfl ?_ F1
    (nsub (news' := (sd, PySem.W.listOf #[] 0) :: (E ++ ((D, tupOf #[.ref lf, .ref lb]) :: Z))) N1' (by k_extra "all")) ?_ ?_ ?_
  · rintro i n ⟨vs, nl, Zi, hZi, _⟩
    exact List.mem_cons_of_mem _ (List.mem_append_right _ (hZi _ List.mem_cons_self))
  · exact ⟨[], 0, _, Ext.refl, offAll_cons hE hED, off_cons (by dsimp only; lia) hZS, rfl, .nil⟩
  · rintro i v u n₁ I io h tk hv ⟨vs, nl, Zi, hZi, hEi, hofs, hvl, hall⟩ hI F2 N2
    have hZi' : Ext Z Zi := fun q hq => hZi q (List.mem_cons_of_mem _ hq)
    obtain ⟨sl, sv, sn, rfl, hsl, hsv, hlen⟩ : ∃ sl sv sn, v = .ref sl ∧ (sl, PySem.W.listOf (sv : List Value).toArray sn) ∈ Z ∧ All2 (RPl Z) sv (sideOf R i) ∧ (sideOf R i).length ≤ 2 := by
      match i, hv with
      | 0, hv => cases hv; exact ⟨_, _, _, rfl, h2, h5, h10⟩
      | 1, hv => cases hv; exact ⟨_, _, _, rfl, h4, h8, h12⟩
    dsimp only [en, envOf] at F2 N2
    have hilt : i < 2 := by
      have := (List.getElem?_eq_some_iff.mp hv).1
      simpa using this
    k_extra "steps"
    refine Stp.in ?_
    rename_i hF' F3 N3
    refine LCg.CompSrc.ledger rfl F3 N3 (by k_mem) (by rw [List.size_toArray, hsv.len, sizeLine_eq]; lia) ?_
    intro g
    simp only [List.size_toArray]
    refine off1 hI fun hI2 hI3 => ?_
    refine compZ (MadK I io sd vs nl R i E Zi) ?_ ?_ ?_ ?_
    · rintro j ys n ⟨Zj, hZj, _⟩
      exact .inr ⟨_, by k_mem, rfl, _, rfl⟩
    · rintro j v ys n₁ I2 oI2 C oC D2 m₂ h2 tk2 E2 hj hv2 ⟨Zj, hZj, hEj, hofj, hofI, hyl, hys⟩ hC hx F4 N4 o1 o2 o3 hne
      have hv3 : sv[j]? = some v := by simpa using hv2
      obtain ⟨pl, hpl, hr⟩ := hsv.get hv3
      cases pl with
      | nm x =>
        obtain ⟨tx, rfl⟩ := hr
        k_extra "steps"
        exact CZ.intro F4 N4 _ (by k_extra "all") o1 o2 o3 ⟨Zj, hZj, hEj, hofj, hofI, by simp [hyl], by rw [take_snoc hpl]; exact hys.snoc ⟨_, rfl⟩⟩
      | gp x y =>
        obtain ⟨ga, gt, gu, rfl, hga⟩ := hr
        simp only [List.forall_mem_cons] at o1 o2 o3
        obtain ⟨o11, o12, o13⟩ := o1
        obtain ⟨o21, o22, o23⟩ := o2
        obtain ⟨o31, o32, o33⟩ := o3
        k_extra "steps"
        rename_i x2 Z2 _ _ hZ2 hP Fq Nq _ _ _ aI2 aC aD2 aI asd hOE2
        refine CZ.intro Fq Nq ((I, io) :: (sd, _) :: (E ++ Z2)) (by k_extra "all") (off_cons o11 (off_cons o12 (off_join (off_appL o13) aI2))) (off_cons o21 (off_cons o22 (off_join (off_appL o23) aC))) (off_cons o31 (off_cons o32 (off_join (off_appL o33) aD2)))
          ⟨Z2, hZj.trans hZ2, hOE2, asd, aI, by simp [hyl], by rw [take_snoc hpl]; exact (hys.mono (PPl.mono hZ2)).snoc ⟨_, _, _, rfl, hP⟩⟩
    · rintro ys n₁ ⟨Zj, hZj, hEj, hofj, hofI, hyl, hys⟩
      refine finE ?_
      intro D' h' tk' F' N' o1
      refine off2 o1 fun o11 o12 o13 => ?_
      rw [hsv.len, List.take_length] at hys
      k_extra "steps"
      rename_i _ Fq Nq
      simp only [List.push_toArray] at Nq
      refine turnT Fq Nq (fun y hy => by have hy' := hy; simp only [List.contains_cons, List.contains_nil, Bool.or_false, Bool.or_eq_false_iff, beq_eq_false_iff_ne, ne_eq] at hy'; simp [hy, hy']) ((sd, _) :: (E ++ ((D', _) :: Zj))) (by k_extra "all") (off_cons hI2 (off_join (off_appL hI3) (off_cons (Ne.symm o11) hofI)))
        ⟨_, _, (D', _) :: Zj, (hZi.trans hZj).cons, offAll_cons hEj (off_appL o13), off_cons (Ne.symm o12) hofj, by simp [hvl], by rw [List.range_succ, List.map_append]; exact (hall.mono (SideV.mono hZj.cons)).snoc ⟨_, _, _, rfl, List.mem_cons_self, hys.mono (PPl.mono (Ext.refl.cons))⟩⟩
    · exact ⟨Zi, Ext.refl, hEi, hofs, (off_app hI3).2, rfl, .nil⟩
  · rintro u n₁ h tk ⟨vs, nl, Zi, hZi, hEi, hofs, hvl, hall⟩ F2 N2
    dsimp only [en, envOf] at F2 N2
    have hZi' : Ext Z Zi := fun q hq => hZi q (List.mem_cons_of_mem _ hq)
    obtain ⟨sa, xa, na, sb, xb, nb2, rfl, ma, mb', ha, hb⟩ : ∃ sa xa na sb xb nb2, vs = [.ref sa, .ref sb] ∧ (sa, PySem.W.listOf (xa : List Value).toArray na) ∈ Zi ∧ (sb, PySem.W.listOf (xb : List Value).toArray nb2) ∈ Zi ∧ All2 (PPl Zi) xa R.fr ∧ All2 (PPl Zi) xb R.ba := by
      have e : (List.range ([Value.ref lf, Value.ref lb] : List Value).length).map (sideOf R) = [R.fr, R.ba] := rfl
      rw [e] at hall
      cases hall with
      | cons r1 rest =>
        cases rest with
        | cons r2 rest2 =>
          cases rest2
          obtain ⟨sa, xa, na, rfl, h1, h2⟩ := r1
          obtain ⟨sb, xb, nb2, rfl, h3, h4⟩ := r2
          exact ⟨sa, xa, na, sb, xb, nb2, rfl, h1, h3, h2, h4⟩
    k_extra "steps"
    refine Stp.in ?_
    refine LCg.CompSrc.ledger rfl F2 N2 (by k_mem) (by rw [List.size_toArray, h6.len, sizeLine_eq]; lia) ?_
    intro g
    simp only [List.size_toArray]
    refine compZ (MadM sd sa sb nl R E Zi) ?_ ?_ ?_ ?_
    · rintro j ys n ⟨Zj, hZj, _⟩
      exact .inr ⟨_, by k_mem, rfl, _, rfl⟩
    · rintro j v ys n₁ I2 oI2 C oC D2 m₂ h2 tk2 E2 hj hv2 ⟨Zj, hZj, hEj, hofj, hyl, hys⟩ hC hx F4 N4 o1 o2 o3 hne
      have hv3 : ov[j]? = some v := by simpa using hv2
      obtain ⟨pl, hpl, tx, rfl⟩ := h6.get hv3
      simp only [List.forall_mem_cons] at o1 o2 o3
      obtain ⟨o11, o12⟩ := o1
      obtain ⟨o21, o22⟩ := o2
      obtain ⟨o31, o32⟩ := o3
      k_extra "steps"
      rename_i Z2 _ _ hZ2 _ aI2 aC aD2 asd hOE2 T2 _ Fq Nq lT hotT
      refine CZ.intro Fq Nq ((sd, _) :: (E ++ ((T2, _) :: Z2))) (by k_extra "all") (off_cons o11 (off_join (off_appL o12) (off_cons (by dsimp only; lia) aI2))) (off_cons o21 (off_join (off_appL o22) (off_cons (by dsimp only; lia) aC))) (off_cons o31 (off_join (off_appL o32) (off_cons (by dsimp only; lia) aD2)))
        ⟨(T2, _) :: Z2, (hZj.trans hZ2).cons, offAll_cons hOE2 (off_appL hotT), off_cons (by dsimp only; lia) asd, by simp [hyl], by rw [take_snoc hpl]; exact (hys.mono (OpV.mono hZ2.cons)).snoc ⟨_, _, _, rfl, List.mem_cons_self⟩⟩
    · rintro ys n₁ ⟨Zj, hZj, hEj, hofj, hyl, hys⟩
      refine finE ?_
      intro D' h' tk' F' N' o1
      refine off1 o1 fun o11 o12 => ?_
      rw [h6.len, List.take_length] at hys
      have hxa : xa.length ≤ 2 := by rw [ha.len]; exact h10
      have hxb : xb.length ≤ 2 := by rw [hb.len]; exact h12
      have hyz : ys.length ≤ 2 := by rw [hys.len]; exact h11
      k_extra "steps"
      rename_i x2 Z2 _ _ hZ2 hP _ _ _ _ hOE2 kF kN _ _
      have hZ3 : Ext Zi Z2 := hZj.trans hZ2
      exact hret x2 Z2 _ _ (hZi'.trans hZ3) hOE2 ⟨xa, ys, rv, xb, blv, hP, ha.mono (PPl.mono hZ3), hys.mono (OpV.mono hZ2), h7, hb.mono (PPl.mono hZ3), h9, h10, h11, h12⟩ kF (nsub kN (by k_extra "all"))
    · exact ⟨Zi, Ext.refl, hEi, hofs, rfl, .nil⟩
end
end
section
theorem lines_6 : True := by
  k_with "own call ref" => ((fail_if_success fail_if_success with_reducible rename Pt 19 => hg9); (k_here; (with_reducible show wpAny _ _ (call (Value.ref 450) [_]) _ _ _); k_dflt (refine @wpAny_call _ _ _ _ _ _ _ _ ?_; k_extra "enterT")))
  k_with "own call ref" => ((fail_if_success fail_if_success with_reducible rename Pt 19 => hg9); (k_here; (with_reducible show wpAny _ _ (call (Value.ref 457) [_]) _ _ _); k_dflt (refine @wpAny_call _ _ _ _ _ _ _ _ ?_; k_extra "enterT")))
  trivial
section
variable {w : World} {p : Program} {loose : List Str} {mean : ExcName → Option Value} {mg mb : Str → Option Value} {dp un : Nat} {gd : Option (List Code)} {cn : Str} {cs : Scope} {a : Addr} {ccd : Value} {cl : List (Str × Addr)} {outer : List Env} {A₀ : Around} {base h₀ : Heap} {L : Addr} {m : Str → Option Value} {s : Shared} {Q E' : Value → Shared → Prop}
theorem fit_use {la pa : Addr} {na : Nat} {R : Row} {as : List AV} {Z E news : Led}
    (B : Below A₀ base outer h₀) (F : Fr h₀ L s.heap m) (X : (hd.heap_39 w.params).In h₀) (T : Top p loose mean mg mb h₀) (hk : cs.kind = .function) (hd : dp + 4 < recursionLimit) (hu : un + 40 < cLine)
    (N : News h₀ L s.heap news) (S : Spl Z news E) (hE : OffAll E Z) (hP : MadeAt Z pa R) (hA : (la, PySem.W.listOf (as.map AV.val).toArray na) ∈ Z) (hal : as.length ≤ 40)
    (hret : ∀ l n Z' h' tk', Ext Z Z' → OffAll E Z' → (l, PySem.W.listOf ((fitA R as).map AV.val).toArray n) ∈ Z' → Fr h₀ L h' m → News h₀ L h' (E ++ Z') → Q (.ref l) { s with heap := h', toks := tk' }) :
    wpAny (model PG w) (ktrTop dp un gd cn cs L a ccd cl outer) (call (.ref 497) [.ref la, .ref pa]) Q E' s := by
  have hpt9 : Pt 19 := trivial
  have N1 : News h₀ L s.heap (E ++ Z) := S.eq ▸ N
  clear N S
  obtain ⟨va, vb, rv, vc, bv, hp, ha, hb, hr, hc, hv, hfl, hol, hbl⟩ := hP
  obtain ⟨dx, lr, lo, lp, nr, no, np, es, n, p1, p2, ⟨q1, q2, q3, q4, q5, t1, t2, t3, t4, t5, rfl⟩, p4, p5, p6⟩ := hp
  have hva : va.length = R.fr.length := ha.len
  have hvb : vb.length = R.op.length := hb.len
  have hvc : vc.length = R.ba.length := hc.len
  have hml : (as.map AV.val).length = as.length := List.length_map ..
  refine @wpAny_call _ _ _ _ _ _ _ _ ?_
  k_dflt k_extra "enterC"
  cases hre : R.re with
  | none =>
    rw [hre] at hr
    cases hr
    k_extra "steps"
    · rename_i D1 _ _ _ _ hD kF kN _ _
      rw [fit_pad (as := as) (.inl hre) hva hvc (by assumption)] at kN
      exact hret D1 0 ((D1, _) :: Z) _ _ Ext.refl.cons (offAll_cons hE (off_appL hD)) List.mem_cons_self kF (nsub kN (by k_extra "all"))
    · rename_i D1 _ _ _ _ hD kF kN _ _
      rw [fit_cut (as := as) hre hva hvc hvb (by assumption)] at kN
      exact hret D1 0 ((D1, _) :: Z) _ _ Ext.refl.cons (offAll_cons hE (off_appL hD)) List.mem_cons_self kF (nsub kN (by k_extra "all"))
  | some x =>
    rw [hre] at hr
    obtain ⟨tx, rfl⟩ := hr
    k_extra "steps"
    · rename_i D1 _ _ _ _ hD kF kN _ _
      rw [fit_pad (as := as) (.inr ⟨x, hre⟩) hva hvc (by assumption)] at kN
      exact hret D1 0 ((D1, _) :: Z) _ _ Ext.refl.cons (offAll_cons hE (off_appL hD)) List.mem_cons_self kF (nsub kN (by k_extra "all"))
    · rename_i kF kN _ _
      rw [fit_same (as := as) hre hva hvc (by assumption)] at hA
      exact hret la na Z _ _ Ext.refl hE hA kF (nsub kN (by k_extra "all"))
end
end
section
theorem lines_7 : True := by
  k_with "own call ref" => ((fail_if_success fail_if_success with_reducible rename Pt 25 => hg9); (k_here; (with_reducible show wpAny _ _ (call (Value.ref _) [_, _, _]) _ _ _); k_dflt (refine @wpAny_call _ _ _ _ _ _ _ _ ?_; k_extra "enterT")))
  trivial
section
variable {w : World} {p : Program} {loose : List Str} {mean : ExcName → Option Value} {mg mb : Str → Option Value} {dp un : Nat} {gd : Option (List Code)} {cn : Str} {cs : Scope} {a : Addr} {ccd : Value} {cl : List (Str × Addr)} {outer : List Env} {A₀ : Around} {base h₀ : Heap} {L : Addr} {m : Str → Option Value} {s : Shared} {Q E' : Value → Shared → Prop}
theorem lst_use {li ow : Addr} {vs : List Value} {nl : Nat} {k : Int} {t : Tok} {Z E news : Led}
    (B : Below A₀ base outer h₀) (F : Fr h₀ L s.heap m) (X : (hd.heap_39 w.params).In h₀) (T : Top p loose mean mg mb h₀) (hk : cs.kind = .function) (hd : dp + 3 < recursionLimit) (hu : un + 48 < cLine)
    (N : News h₀ L s.heap news) (S : Spl Z news E) (hE : OffAll E Z) (hli : (li, PySem.W.listOf vs.toArray nl) ∈ Z)
    (hret : ∀ x Z' h' tk', Ext Z Z' → OffAll E Z' → ListAt Z' x vs → Fr h₀ L h' m → News h₀ L h' (E ++ Z') → Q (.ref x) { s with heap := h', toks := tk' }) :
    wpAny (model PG w) (ktrTop dp un gd cn cs L a ccd cl outer) (call (.ref 261) [.int k t, .ref ow, .ref li]) Q E' s := by
  have hpt9 : Pt 25 := trivial
  have e := S.eq
  subst e
  clear S
  k_dflt k_extra "cb"
  rename_i x0 d0 _ _ _ l0 l2x _ _ _ _ _ _ _ _ _
  have hd : ∀ q ∈ E ++ Z, q.1 ≠ d0 := fun q hq => Nat.ne_of_lt (l0 q hq)
  have hx : ∀ q ∈ E ++ Z, q.1 ≠ x0 := fun q hq => Nat.ne_of_lt (Nat.lt_trans (l0 q hq) l2x)
  k_extra "steps"
  rename_i kF kN _ _
  refine' hret x0 ((x0, _) :: (d0, _) :: Z) _ _ (Ext.refl.cons.cons) (offAll_cons (offAll_cons hE (off_app hd).1) (off_app hx).1) ?lst kF (nsub kN (by k_extra "all"))
  case lst => exact ⟨d0, _, _, li, nl, k, t, List.mem_cons_self, List.mem_cons_of_mem _ List.mem_cons_self, rfl, rfl, List.mem_cons_of_mem _ (List.mem_cons_of_mem _ hli)⟩
end
end
section
inductive WN : Str → Prop
  | n1 : WN (Str.ofString "number")
  | n2 : WN (Str.ofString "builtin")
  | n3 : WN (Str.ofString "make_builtin")
  | n4 : WN (Str.ofString "give_own")
  | n5 : WN (Str.ofString "list_of")
  | n6 : WN (Str.ofString "fail")
  | n7 : WN (Str.ofString "error")
  | n8 : WN (Str.ofString "text")
theorem WN.get {es : List DictEntry} {mD nat pre : Addr} {rd : Bool} (W : WK es mD nat pre rd) {x : Str} (h : WN x) : getL x es = some none := by
  cases h
  · exact W.m1
  · exact W.m2
  · exact W.m3
  · exact W.m4
  · exact W.m5
  · exact W.m6
  · exact W.m7
  · exact W.m8
theorem wst_meth {prog : Program} {w : World} {A : Around} {E : Value → Shared → Prop} {s : Shared} {K : Frag} {h₀ : Heap} {L : Addr} {m : Str → Option Value} {news : Led} {name : Str} {W dW mD f : Addr} {ow om : Obj} {rd : Bool} {n : Nat} {Z : Led} {pl : Sem Bool} {Q : Value × List Value → Shared → Prop}
    (F : Fr h₀ L s.heap m) (X₀ : K.In h₀) (N : News h₀ L s.heap news) (hs : WSt w Z W dW mD ow om rd n) (hz : Ext Z news) (h2 : (dW, ow) ∈ news)
    (hg : plainGet K 842 name = true) (hf : findIn K (.ref 842) name = some (some (.ref f))) (ht : isFn K (.ref f) = true) (hl : WN name) (h : Q (.ref f, [.ref W]) s) : wpAny (model prog w) A (getMethod (.ref W) name pl) Q E s := by
  obtain ⟨hi, ⟨es, nn, nat, pr, rfl, wk, no⟩, dd, lo⟩ := hs
  exact @method_inst _ _ _ _ _ _ _ _ _ _ _ _ _ _ _ _ _ _ F X₀ (InstAt.of_news N (hz _ hi) h2) hg hf ht (hl.get wk) h
theorem lines_8 : True := by
  k_with "own getAttr ref" => ((fail_if_success fail_if_success with_reducible rename Pt 43 => hg9); (k_here; k_dflt (refine @get_own _ _ _ _ _ _ _ _ _ _ _ _ _ _ _ _ _ _ _ (by k_asm) (by k_asm) (InstAt.of_news (by k_asm) (by k_mem) (by k_mem)) (by k_is) (by k_is) (by k_is) (by k_is) (by first | with_reducible assumption | exact WK.made (by with_reducible assumption) | exact WK.nat (by with_reducible assumption) | exact WK.pre (by with_reducible assumption) | exact WK.rdy (by with_reducible assumption)) (by k_handed) ?_; k_whole)))
  k_with "own setAttr ref" => ((fail_if_success fail_if_success with_reducible rename Pt 43 => hg9); (k_here; (with_reducible show wpAny _ _ (setAttr (Value.ref _) (Str.ofString "last_number") (Value.int _ _)) _ _ _); k_dflt (refine @set_wn _ _ _ _ _ _ _ _ _ _ _ _ _ _ _ _ _ _ _ _ _ _ _ (by k_asm) (by k_asm) (by k_asm) (by k_mem) (by k_updF) (by with_reducible assumption) (by k_is) (by k_is) (by k_is) (by k_is) ?_; k_whole); intro _ _ _ _ wn' _ _; (obtain ⟨_, _⟩ := wn'); (k_extra "nd"); (try k_sweep)))
  trivial
section
variable {w : World} {p : Program} {loose : List Str} {mean : ExcName → Option Value} {mg mb : Str → Option Value} {dp un : Nat} {gd : Option (List Code)} {cn : Str} {cs : Scope} {a : Addr} {ccd : Value} {cl : List (Str × Addr)} {outer : List Env} {A₀ : Around} {base h₀ : Heap} {L : Addr} {m : Str → Option Value} {s : Shared} {Q E' : Value → Shared → Prop}
theorem num_use {n : Nat} {W dW mD : Addr} {ow om : Obj} {rd : Bool} {Z R1 E news : Led}
    (B : Below A₀ base outer h₀) (F : Fr h₀ L s.heap m) (X : (hd.heap_39 w.params).In h₀) (T : Top p loose mean mg mb h₀) (hk : cs.kind = .function) (hd : dp + 2 < recursionLimit) (hu : un + 30 < cLine)
    (hs : WSt w Z W dW mD ow om rd n) (N : News h₀ L s.heap news) (P : Pick dW ow news R1) (S : Spl Z R1 E) (ho : ∀ p ∈ R1, p.1 ≠ dW)
    (hret : ∀ k t ow' h' tk', WSt w Z W dW mD ow' om rd n → Fr h₀ L h' m → News h₀ L h' ((dW, ow') :: R1) → Q (.int k t) { s with heap := h', toks := tk' }) :
    wpAny (model PG w) (ktrTop dp un gd cn cs L a ccd cl outer) (call (.ref 602) [.ref W]) Q E' s := by
  have hpt9 : Pt 43 := trivial
  have N1 : News h₀ L s.heap ((dW, ow) :: (E ++ Z)) := nsub N fun p hp => P.sub _ (S.eq ▸ hp)
  rw [S.eq] at ho hret
  clear N P S
  obtain ⟨hi, ⟨es, nn, nat, pr, rfl, wk, no⟩, dd, lo⟩ := hs
  have hoE := off_appL ho
  have hoZ := off_appR ho
  obtain ⟨k0, t0, hk0⟩ := wk.num
  refine @wpAny_call _ _ _ _ _ _ _ _ ?_
  k_dflt k_extra "enterC"
  k_extra "steps"
  rename_i h1 es' n' wk' F' N' wt' wn' kF kN _ _
  exact hret _ _ _ _ _ ⟨hi, ⟨es', n', nat, pr, rfl, wk', no⟩, dd, lo⟩ kF (nsub kN (by k_extra "all"))
end
end
section
theorem lines_9 : True := by
  k_with "own call ref" => ((fail_if_success fail_if_success with_reducible rename Pt 24 => hg9); (k_here; (with_reducible show wpAny _ _ (call (Value.ref 261) [_, _, _]) _ _ _); refine Stp.out ?_))
  k_with "own call type:list" => ((fail_if_success fail_if_success with_reducible rename Pt 24 => hg9); (refine Stp.out ?_))
  trivial
section
variable {w : World} {p : Program} {loose : List Str} {mean : ExcName → Option Value} {mg mb : Str → Option Value} {dp un : Nat} {gd : Option (List Code)} {cn : Str} {cs : Scope} {a : Addr} {ccd : Value} {cl : List (Str × Addr)} {outer : List Env} {A₀ : Around} {base h₀ : Heap} {L : Addr} {m : Str → Option Value} {s : Shared} {Q E' : Value → Shared → Prop}
theorem lof_use {n : Nat} {W dW mD li : Addr} {ow om : Obj} {rd : Bool} {vs : List Value} {nl : Nat} {Z R R1 E news : Led}
    (B : Below A₀ base outer h₀) (F : Fr h₀ L s.heap m) (X : (hd.heap_39 w.params).In h₀) (T : Top p loose mean mg mb h₀) (hk : cs.kind = .function) (hd : dp + 2 * n + 20 < recursionLimit) (hu : un + 100 * n + 300 < cLine)
    (hs : WSt w Z W dW mD ow om rd n) (N : News h₀ L s.heap news) (P : Pick dW ow news R1) (P2 : Pick mD om R1 R) (S : Spl Z R E) (hne : @Ne Nat dW mD) (ho : ∀ p ∈ R, p.1 ≠ dW) (ho2 : ∀ p ∈ R, p.1 ≠ mD) (hE : OffAll E Z)
    (hli : (li, PySem.W.listOf vs.toArray nl) ∈ R) (hvl : vs.length ≤ 1000)
    (hret : ∀ x Z' ow' om' h' tk', Ext Z Z' → OffAll E Z' → (∀ q ∈ Z', q.1 ≠ dW) → (∀ q ∈ Z', q.1 ≠ mD) → WSt w Z' W dW mD ow' om' rd n → ListAt Z' x vs → Fr h₀ L h' m → News h₀ L h' ((dW, ow') :: (mD, om') :: (E ++ Z')) → Q (.ref x) { s with heap := h', toks := tk' }) :
    wpAny (model PG w) (ktrTop dp un gd cn cs L a ccd cl outer) (call (.ref 692) [.ref W, .ref li]) Q E' s := by
  have hp29 : Pt 2 := trivial
  have hpt9 : Pt 24 := trivial
  have N1 : News h₀ L s.heap ((dW, ow) :: (mD, om) :: (E ++ Z)) := nsub N fun p hp => P.sub _ (by
    rcases List.mem_cons.mp hp with rfl | hp
    · exact List.mem_cons_self
    · exact List.mem_cons_of_mem _ (P2.sub _ (S.eq ▸ hp)))
  rw [S.eq] at ho ho2 hli
  clear N P P2 S
  have hoE := off_appL ho
  have hoZ := off_appR ho
  have ho2E := off_appL ho2
  have ho2Z := off_appR ho2
  have hli2 : ∀ Z', Ext Z Z' → (li, PySem.W.listOf vs.toArray nl) ∈ E ++ Z' := fun Z' e => List.mem_append.mpr ((List.mem_append.mp hli).imp id (e _))
  have hmD : ∀ p ∈ (mD, om) :: (E ++ Z), p.1 ≠ dW := off_cons (Ne.symm hne) ho
  refine @wpAny_call _ _ _ _ _ _ _ _ ?_
  k_dflt k_extra "enterC"
  k_extra "steps"
  refine Stp.in ?_
  rename_i k1 t1 ow1 h1 tk1 x2 Z2 ow2 om2 h2 tk2 hZ2 hOE2 hob2 hos2 hs2 F2 N2
  refine @copy_led _ _ _ _ _ _ _ _ _ _ _ _ _ F2 N2 (List.mem_cons_of_mem _ (List.mem_cons_of_mem _ (hli2 _ hZ2))) (by simp only [List.size_toArray, sizeLine_eq]; lia) ?_
  intro D c h3 F3 N3 l3
  have h4 := l3
  have h41 : @LT.lt Nat _ dW D := h4 _ List.mem_cons_self
  have h42 : @LT.lt Nat _ mD D := h4 _ (List.mem_cons_of_mem _ List.mem_cons_self)
  have h43 : ∀ q ∈ E ++ Z2, q.1 ≠ D := fun q hq => Nat.ne_of_lt (h4 q (List.mem_cons_of_mem _ (List.mem_cons_of_mem _ hq)))
  have h43E := off_appL h43
  have h43Z := off_appR h43
  k_extra "steps"
  refine Stp.in ?_
  have N4 := nsub (news' := (dW, ow2) :: (mD, om2) :: (E ++ ((D, PySem.W.listOf vs.toArray c) :: Z2))) N3 (by k_extra "all")
  have hE4 : OffAll ((dW, ow2) :: (mD, om2) :: E) ((D, PySem.W.listOf vs.toArray c) :: Z2) := ⟨off_cons (Ne.symm (Nat.ne_of_lt h41)) hob2, off_cons (Ne.symm (Nat.ne_of_lt h42)) hos2, offAll_cons hOE2 h43E⟩
  k_dflt (refine' lst_use ?B ?F ?X ?T ?hk ?hd ?hu N4 ?S hE4 List.mem_cons_self ?_; (case B => k_asm); (case F => k_asm); (case X => k_asm); (case T => k_asm); (case hk => first | exact rfl | assumption); (case hd => ktr_room); (case hu => ktr_units); (case S => exact Spl.cons (Spl.cons Spl.app)))
  intro x5 Z5 h5 tk5 hZ5 hOE5 hL5 F5 N5
  obtain ⟨ha5, hb5, hc5⟩ := hOE5
  simp only [List.cons_append] at N5
  have hZ6 : Ext Z2 Z5 := fun q hq => hZ5 q (List.mem_cons_of_mem _ hq)
  k_extra "steps"
  rename_i kF kN _ _
  exact hret x5 Z5 ow2 om2 _ _ (hZ2.trans hZ6) hc5 ha5 hb5 (hs2.mono hZ6 (Nat.le_refl _)) hL5 kF (nsub kN (by k_extra "all"))
end
end
section
theorem item_at {prog : Program} {w : World} {A : Around} {E : Value → Shared → Prop} {s : Shared} {h₀ : Heap} {L l : Addr} {news : Led} {value slice : PySem.Expr} {vs : List Value} {n : Nat} {k : Int} {u : Tok} {v0 : Value} {Q : Value → Shared → Prop} (N : News h₀ L s.heap news) (hm : (l, PySem.W.listOf vs.toArray n) ∈ news)
    (hx : vs[k.toNat]? = some v0) (h0 : 0 ≤ k) (hz : vs.length ≤ 100000) (h : Q v0 s)
    (hs : subscripted slice false (.ref l) (.int k u) = operate [.ref l, .int k u] (getItem (.ref l) (.int k u)) := by with_unfolding_all rfl) :
    wpAny (model prog w) A (subscriptTail value slice (.ref l) (.int k u)) Q E s := by
  have hk := (List.getElem?_eq_some_iff.mp hx).1
  refine @item_led _ _ _ _ _ _ _ _ _ _ _ _ _ _ _ _ N hm h0 (by lia) hz (fun v hv => ?_) hs
  rw [hv, List.getD_eq_getElem?_getD, hx]
  exact h
structure PutC (w : World) (n : Nat) (D U K : Nat) (pl : Pl) : Prop where
  use : ∀ {p : Program} {loose : List Str} {mean : ExcName → Option Value} {mg mb : Str → Option Value} {dp un : Nat} {gd : Option (List Code)} {cn : Str} {cs : Scope} {a : Addr} {ccd : Value} {cl : List (Str × Addr)} {outer : List Env} {A₀ : Around} {base h₀ : Heap} {L : Addr} {m : Str → Option Value} {s : Shared} {Q E' : Value → Shared → Prop}
    {W dW mD vD : Addr} {ow om vo : Obj} {rd : Bool} {l : List (Str × DV)} {pv : Value} {av : AV} {Z E : Led},
    Below A₀ base outer h₀ → Fr h₀ L s.heap m → (hd.heap_39 w.params).In h₀ → Top p loose mean mg mb h₀ → cs.kind = .function → dp + D < recursionLimit → un + U < cLine →
    News h₀ L s.heap ((dW, ow) :: (mD, om) :: (vD, vo) :: (E ++ Z)) → @Ne Nat dW mD → @Ne Nat dW vD → @Ne Nat mD vD → (∀ p ∈ E ++ Z, p.1 ≠ dW) → (∀ p ∈ E ++ Z, p.1 ≠ mD) → (∀ p ∈ E ++ Z, p.1 ≠ vD) → OffAll E Z →
    WSt w Z W dW mD ow om rd n → VD w Z vo l → (vD == sysModules) = false → l.length ≤ K → PPl Z pv pl → AVOk Z av →
    (∀ r Z' ow' om' vo' h' tk', Ext Z Z' → OffAll E Z' → (∀ q ∈ Z', q.1 ≠ dW) → (∀ q ∈ Z', q.1 ≠ mD) → (∀ q ∈ Z', q.1 ≠ vD) → WSt w Z' W dW mD ow' om' rd n → VD w Z' vo' (fs l [(pl, .one av)]) → Fr h₀ L h' m → News h₀ L h' ((dW, ow') :: (mD, om') :: (vD, vo') :: (E ++ Z')) → Q r { s with heap := h', toks := tk' }) →
    wpAny (model PG w) (ktrTop dp un gd cn cs L a ccd cl outer) (call (.ref 511) [.ref W, pv, av.val, .ref vD]) Q E' s
section
variable {w : World} {p : Program} {loose : List Str} {mean : ExcName → Option Value} {mg mb : Str → Option Value} {dp un : Nat} {gd : Option (List Code)} {cn : Str} {cs : Scope} {a : Addr} {ccd : Value} {cl : List (Str × Addr)} {outer : List Env} {A₀ : Around} {base h₀ : Heap} {L : Addr} {m : Str → Option Value} {s : Shared} {Q E' : Value → Shared → Prop}
theorem putc_apply {n D U K : Nat} {pl : Pl} {W dW mD vD : Addr} {ow om vo : Obj} {rd : Bool} {l : List (Str × DV)} {pv v : Value} {av : AV} {Z R3 R2 R1 E news : Led} (C : PutC w n D U K pl)
    (B : Below A₀ base outer h₀) (F : Fr h₀ L s.heap m) (X : (hd.heap_39 w.params).In h₀) (T : Top p loose mean mg mb h₀) (hk : cs.kind = .function) (hd : dp + D < recursionLimit) (hu : un + U < cLine)
    (hs : WSt w Z W dW mD ow om rd n) (hv : VD w Z vo l) (N : News h₀ L s.heap news) (P : Pick dW ow news R1) (P2 : Pick mD om R1 R2) (P3 : Pick vD vo R2 R3) (S : Spl Z R3 E) (h12 : @Ne Nat dW mD) (h13 : @Ne Nat dW vD) (h23 : @Ne Nat mD vD) (o1 : ∀ p ∈ R3, p.1 ≠ dW) (o2 : ∀ p ∈ R3, p.1 ≠ mD) (o3 : ∀ p ∈ R3, p.1 ≠ vD) (hE : OffAll E Z)
    (lo : (vD == sysModules) = false) (hz : l.length ≤ K) (hP : PPl Z pv pl) (hav : AVOk Z av) (hva : v = av.val)
    (hret : ∀ r Z' ow' om' vo' h' tk', Ext Z Z' → OffAll E Z' → (∀ q ∈ Z', q.1 ≠ dW) → (∀ q ∈ Z', q.1 ≠ mD) → (∀ q ∈ Z', q.1 ≠ vD) → WSt w Z' W dW mD ow' om' rd n → VD w Z' vo' (fs l [(pl, .one av)]) → Fr h₀ L h' m → News h₀ L h' ((dW, ow') :: (mD, om') :: (vD, vo') :: (E ++ Z')) → Q r { s with heap := h', toks := tk' }) :
    wpAny (model PG w) (ktrTop dp un gd cn cs L a ccd cl outer) (call (.ref 511) [.ref W, pv, v, .ref vD]) Q E' s := by
  have N1 : News h₀ L s.heap ((dW, ow) :: (mD, om) :: (vD, vo) :: (E ++ Z)) := nsub N fun p hp => P.sub _ (by
    rcases List.mem_cons.mp hp with rfl | hp
    · exact List.mem_cons_self
    · refine List.mem_cons_of_mem _ (P2.sub _ ?_)
      rcases List.mem_cons.mp hp with rfl | hp
      · exact List.mem_cons_self
      · exact List.mem_cons_of_mem _ (P3.sub _ (S.eq ▸ hp)))
  rw [S.eq] at o1 o2 o3
  subst hva
  exact C.use B F X T hk hd hu N1 h12 h13 h23 o1 o2 o3 hE hs hv lo hz hP hav hret
end
end
section
section
variable {w : World} {p : Program} {loose : List Str} {mean : ExcName → Option Value} {mg mb : Str → Option Value} {dp un : Nat} {gd : Option (List Code)} {cn : Str} {cs : Scope} {a : Addr} {ccd : Value} {cl : List (Str × Addr)} {outer : List Env} {A₀ : Around} {base h₀ : Heap} {L : Addr} {m : Str → Option Value} {s : Shared} {Q E' : Value → Shared → Prop}
theorem put_name (n : Nat) (x : Str) {K : Nat} (hK : K ≤ 900) : PutC w n 4 40 K (.nm x) := by
  have hp29 : Pt 2 := trivial
  constructor
  intro p loose mean mg mb dp un gd cn cs a ccd cl outer A₀ base h₀ L m s Q E' W dW mD vD ow om vo rd l pv av Z E B F X T hk hd hu N h12 h13 h23 o1 o2 o3 hE hs hv lo hz hP hav hret
  obtain ⟨tx, rfl⟩ := hP
  have o1E := off_appL o1
  have o1Z := off_appR o1
  have o2E := off_appL o2
  have o2Z := off_appR o2
  have o3E := off_appL o3
  have o3Z := off_appR o3
  have hfv : FVAt Z av.val (.one av) := ⟨rfl, hav⟩
  refine @wpAny_call _ _ _ _ _ _ _ _ ?_
  k_dflt k_extra "enterC"
  k_extra "steps"
  rename_i vo' _ hvd' _ _ kF kN _ _
  exact hret _ Z ow om vo' _ _ Ext.refl hE o1Z o2Z o3Z hs hvd' kF (nsub kN (by k_extra "all"))
end
end
section
theorem lines_10 : True := by
  k_with "own subscriptTail" => ((fail_if_success fail_if_success with_reducible rename Pt 33 => hg9); (k_here; (with_reducible show wpAny _ _ (subscriptTail _ _ (Value.ref _) (Value.int _ _)) _ _ _); k_dflt (refine @item_at _ _ _ _ _ _ _ _ _ _ _ _ _ _ _ _ _ (by k_asm) (by k_mem) (by with_reducible assumption) (by lia) (by lia) ?_ (by with_unfolding_all rfl); k_whole)))
  k_with "own subscriptTail Name BinOp ref int" => ((fail_if_success fail_if_success with_reducible rename Pt 33 => hg9); (k_here; (with_reducible show wpAny _ _ (subscriptTail _ _ (Value.ref _) (Value.int _ _)) _ _ _); k_dflt (refine @item_at _ _ _ _ _ _ _ _ _ _ _ _ _ _ _ _ _ (by k_asm) (by k_mem) (by with_reducible assumption) (by lia) (by lia) ?_ (by with_unfolding_all rfl); k_whole)))
  k_with "own subscriptTail Name Name ref int" => ((fail_if_success fail_if_success with_reducible rename Pt 33 => hg9); (k_here; (with_reducible show wpAny _ _ (subscriptTail _ _ (Value.ref _) (Value.int _ _)) _ _ _); k_dflt (refine @item_at _ _ _ _ _ _ _ _ _ _ _ _ _ _ _ _ _ (by k_asm) (by k_mem) (by with_reducible assumption) (by lia) (by lia) ?_ (by with_unfolding_all rfl); k_whole)))
  k_with "own subscriptTail Attribute" => ((fail_if_success fail_if_success with_reducible rename Pt 33 => hg9); (k_here; (with_reducible show wpAny _ _ (subscriptTail _ _ (Value.ref _) (Value.int _ _)) _ _ _); k_dflt (refine @item_at _ _ _ _ _ _ _ _ _ _ _ _ _ _ _ _ _ (by k_asm) (by k_mem) (by with_reducible assumption) (by lia) (by lia) ?_ (by with_unfolding_all rfl); k_whole)))
  k_with "own call builtin:dict.setdefault" => ((fail_if_success fail_if_success with_reducible rename Pt 33 => hg9); (k_here; (with_reducible show wpAny _ _ (call _ [Value.ref _, Value.str _ _, Value.ref _]) _ _ _); refine Stp.out ?_))
  k_with "own subscriptTail Subscript" => ((fail_if_success fail_if_success with_reducible rename Pt 33 => hg9); (k_here; (with_reducible show wpAny _ _ (subscriptTail (Expr.Subscript _ _ _) (Expr.Constant _ _) (Value.ref _) (Value.int _ _)) _ _ _); k_dflt (refine item_tupleT (by exact News.isTup (by k_asm) (by k_mem)) (by decide) (by decide) (by rfl) (by rfl) ?_; k_whole)))
  trivial
theorem zipP_get {pls : List Pl} {as : List AV} {i : Nat} {pl : Pl} {av : AV} (h1 : pls[i]? = some pl) (h2 : as[i]? = some av) : (zipP pls as)[i]? = some (pl, .one av) := by
  have e : zipP pls as = (pls.zip as).map fun p => (p.1, DV.one p.2) := rfl
  have e2 : pls.zip as = List.zipWith Prod.mk pls as := rfl
  rw [e, List.getElem?_map, e2, List.getElem?_zipWith, h1, h2]; rfl
theorem zipP_len (pls : List Pl) (as : List AV) : (zipP pls as).length = min pls.length as.length := by
  have e : zipP pls as = (pls.zip as).map fun p => (p.1, DV.one p.2) := rfl
  rw [e, List.length_map, List.length_zip]
inductive PutS (w : World) (n : Nat) (rd : Bool) (W dW mD vD : Addr) (E Z : Led) (l : List (Str × DV)) : Led → Prop
  | mk (ow om vo : Obj) (Zi : Led) (c1 : Ext Z Zi) (c2 : OffAll E Zi) (c3 : ∀ q ∈ Zi, q.1 ≠ dW) (c4 : ∀ q ∈ Zi, q.1 ≠ mD) (c5 : ∀ q ∈ Zi, q.1 ≠ vD) (c6 : WSt w Zi W dW mD ow om rd n) (c7 : VD w Zi vo l) : PutS w n rd W dW mD vD E Z l ((dW, ow) :: (mD, om) :: (vD, vo) :: (E ++ Zi))
section
variable {w : World} {p : Program} {loose : List Str} {mean : ExcName → Option Value} {mg mb : Str → Option Value} {dp un : Nat} {gd : Option (List Code)} {cn : Str} {cs : Scope} {a : Addr} {ccd : Value} {cl : List (Str × Addr)} {outer : List Env} {A₀ : Around} {base h₀ : Heap} {L : Addr} {m : Str → Option Value} {s : Shared} {Q E' : Value → Shared → Prop}
theorem pal_use {n D U K : Nat} {R : Row} {as : List AV} {na : Nat} {W dW mD vD pa la : Addr} {ow om vo : Obj} {rd : Bool} {l : List (Str × DV)} {Z R3 R2 R1 E news : Led} (HC : ∀ pl, pl ∈ R.fr ++ R.ba → PutC w n D U K pl) (hK : K ≤ 900)
    (B : Below A₀ base outer h₀) (F : Fr h₀ L s.heap m) (X : (hd.heap_39 w.params).In h₀) (T : Top p loose mean mg mb h₀) (hk : cs.kind = .function) (hd : dp + D + 1 < recursionLimit) (hd2 : dp + 2 * n + 30 < recursionLimit) (hu : un + U + 40 < cLine) (hu2 : un + 100 * n + 500 < cLine)
    (N : News h₀ L s.heap news) (P : Pick dW ow news R1) (P2 : Pick mD om R1 R2) (P3 : Pick vD vo R2 R3) (S : Spl Z R3 E) (h12 : @Ne Nat dW mD) (h13 : @Ne Nat dW vD) (h23 : @Ne Nat mD vD) (o1 : ∀ p ∈ R3, p.1 ≠ dW) (o2 : ∀ p ∈ R3, p.1 ≠ mD) (o3 : ∀ p ∈ R3, p.1 ≠ vD) (hE : OffAll E Z)
    (hs : WSt w Z W dW mD ow om rd n) (hv : VD w Z vo l) (lo : (vD == sysModules) = false) (hz : l.length + 12 ≤ K) (hP : MadeAt Z pa R) (hA : (la, PySem.W.listOf (as.map AV.val).toArray na) ∈ Z) (hal : as.length ≤ 30) (hle : R.fr.length + R.ba.length ≤ as.length) (hok : ∀ v ∈ as, AVOk Z v)
    (hret : ∀ t Z' ow' om' vo' h' tk', Ext Z Z' → OffAll E Z' → (∀ q ∈ Z', q.1 ≠ dW) → (∀ q ∈ Z', q.1 ≠ mD) → (∀ q ∈ Z', q.1 ≠ vD) → WSt w Z' W dW mD ow' om' rd n → VD w Z' vo' (fs l (specA R as)) → Fr h₀ L h' m → News h₀ L h' ((dW, ow') :: (mD, om') :: (vD, vo') :: (E ++ Z')) → Q (.int (cameA R as : Nat) t) { s with heap := h', toks := tk' }) :
    wpAny (model PG w) (ktrTop dp un gd cn cs L a ccd cl outer) (call (.ref 518) [.ref W, .ref pa, .ref la, .ref vD]) Q E' s := by
  have hp29 : Pt 2 := trivial
  have hpt9 : Pt 33 := trivial
  have N1 : News h₀ L s.heap ((dW, ow) :: (mD, om) :: (vD, vo) :: (E ++ Z)) := nsub N fun p hp => P.sub _ (by
    rcases List.mem_cons.mp hp with rfl | hp
    · exact List.mem_cons_self
    · refine List.mem_cons_of_mem _ (P2.sub _ ?_)
      rcases List.mem_cons.mp hp with rfl | hp
      · exact List.mem_cons_self
      · exact List.mem_cons_of_mem _ (P3.sub _ (S.eq ▸ hp)))
  rw [S.eq] at o1 o2 o3
  clear N P P2 P3 S
  have o1E := off_appL o1
  have o1Z := off_appR o1
  have o2E := off_appL o2
  have o2Z := off_appR o2
  have o3E := off_appL o3
  have o3Z := off_appR o3
  obtain ⟨va, vb, rv, vc, bv, hp, ha, hb, hr, hc, hbv, hfl, hol, hbl⟩ := hP
  obtain ⟨dx, lr, lo1, lp, nr, no, np, es, n1, p1, p2, ⟨q1, q2, q3, q4, q5, t1, t2, t3, t4, t5, rfl⟩, p4, p5, p6⟩ := hp
  have hva : va.length = R.fr.length := ha.len
  have hvb : vb.length = R.op.length := hb.len
  have hvc : vc.length = R.ba.length := hc.len
  have hml : (as.map AV.val).length = as.length := List.length_map ..
  refine @wpAny_call _ _ _ _ _ _ _ _ ?_
  k_dflt k_extra "enterC"
  k_extra "steps"
  refine Stp.in ?_
  rename_i c tc _ _ hc1 hc2 hc3 _ _ _ _ _ _ R1 F1 N1' _
  have hcc : c = ((cameA R as : Nat) : Int) := by
    rw [hvb] at hc1 hc3
    rw [hva, hvc, hml] at hc2 hc3
    exact min_lift _ _ (sub_lift hle) hc1 hc2 hc3
  have hcl : cameA R as ≤ R.op.length := Nat.min_le_left _ _
  have hcl2 : R.fr.length + cameA R as + R.ba.length ≤ as.length := came_fit _ hle
  subst hcc
  clear hc1 hc2 hc3
  replace N1' := nsub (news' := (dW, ow) :: (mD, om) :: (vD, vo) :: (E ++ Z)) N1' (by k_extra "all")
  refine @rangeZ _ _ _ _ _ _ _ _ _ _ _ _ _ _ _ _ _ [] va.length (fun i nw => PutS w n rd W dW mD vD E Z (fs l ((zipP R.fr as).take i)) nw) rfl R1 (by lia) (by lia) (by lia) F1 N1' ⟨ow, om, vo, Z, Ext.refl, hE, o1Z, o2Z, o3Z, hs, hv⟩ ?_ ?_
  · rintro i t u n₁ I io h tk hi ⟨ow2, om2, vo2, Zi, hZi, hEi, ho1, ho2, ho3, hsi, hvi⟩ hI F2 N2
    refine off3 hI fun hI1 hI2 hI3 hI4 => ?_
    obtain ⟨pv, hpv⟩ : ∃ pv, va[i]? = some pv := ⟨_, List.getElem?_eq_getElem hi⟩
    obtain ⟨av, hav⟩ : ∃ av, as[i]? = some av := ⟨_, List.getElem?_eq_getElem (by lia)⟩
    obtain ⟨pl, hpl, hPP⟩ := ha.get hpv
    have hC1 := HC pl (List.mem_append_left _ (List.mem_of_getElem? hpl))
    have hav2 := (hok av (List.mem_of_getElem? hav)).mono hZi
    replace hPP := PPl.mono hZi _ _ hPP
    have e1 : ((i : Nat) : Int).toNat = i := rfl
    have hg1 : va[((i : Nat) : Int).toNat]? = some pv := by rw [e1]; exact hpv
    have hg2 : (as.map AV.val)[((i : Nat) : Int).toNat]? = some av.val := by rw [e1, List.getElem?_map, hav]; rfl
    have hfl9 : (fs l ((zipP R.fr as).take i)).length ≤ K := by
      have := fs_len l ((zipP R.fr as).take i)
      simp only [List.length_take, zipP_len] at this
      exact fold_le this (hva ▸ hi) hfl (Nat.le_add_right _ 10) hz
    clear e1 hpv
    obtain ⟨a1, a1'⟩ := off_app (x := I) hI4
    dsimp only [en, envOf] at F2 N2
    k_extra "steps"
    rename_i r3 Z3 ow3 om3 vo3 h3 tk3 hZ3 ho13 ho23 ho33 hs3 hv3 F3 N3 hoI3 hE3
    exact turnZ F3 N3 (fun y h1 h2 => by simp [h1]) ((dW, ow3) :: (mD, om3) :: (vD, vo3) :: (E ++ Z3)) (by k_extra "all") (off_cons hI1 (off_cons hI2 (off_cons hI3 (off_join a1 hoI3))))
      ⟨ow3, om3, vo3, Z3, hZi.trans hZ3, hE3, ho13, ho23, ho33, hs3, by rw [fs_snoc l (zipP_get hpl hav)]; exact hv3⟩
  · rintro u n₁ h tk ⟨ow2, om2, vo2, Z2, hZ2, hE2, ho1, ho2, ho3, hs2, hv2⟩ F2 N2
    dsimp only [en, envOf] at F2 N2
    rw [List.take_of_length_le (by rw [zipP_len]; lia)] at hv2
    have hl2 : (fs l (zipP R.fr as)).length ≤ l.length + 4 := by
      have := fs_len l (zipP R.fr as)
      rw [zipP_len] at this
      lia
    generalize hl2e : fs l (zipP R.fr as) = l2 at *
    k_extra "steps"
    refine Stp.in ?_
    rename_i _ _ _ _ _ R2 F3 N3 _
    have hS2 : (zipP (R.op.map Pl.nm) ((as.take (R.fr.length + cameA R as)).drop R.fr.length)).length = cameA R as := by
      rw [zipP_len, List.length_map, List.length_drop, List.length_take]; exact mid_len hcl2 hcl
    generalize hS2e : zipP (R.op.map Pl.nm) ((as.take (R.fr.length + cameA R as)).drop R.fr.length) = S2 at *
    refine @rangeZ _ _ _ _ _ _ _ _ _ _ _ _ _ _ _ _ _ [] (cameA R as) (fun i nw => PutS w n rd W dW mD vD E Z (fs l2 (S2.take i)) nw) rfl R2 (by lia) (by lia) (by lia) F3 N3 ⟨ow2, om2, vo2, Z2, hZ2, hE2, ho1, ho2, ho3, hs2, hv2⟩ ?_ ?_
    · rintro i t u2 n₂ I io h2 tk2 hi ⟨ow4, om4, vo4, Zi, hZi, hEi, hj1, hj2, hj3, hsi, hvi⟩ hI F4 N4
      refine off3 hI fun hI1 hI2 hI3 hI4 => ?_
      obtain ⟨bvv, hbv⟩ : ∃ pv, vb[i]? = some pv := ⟨_, List.getElem?_eq_getElem (by lia)⟩
      obtain ⟨av, hav⟩ : ∃ av, as[R.fr.length + i]? = some av := ⟨_, List.getElem?_eq_getElem (by lia)⟩
      obtain ⟨x, hpl, hOp⟩ := hb.get hbv
      obtain ⟨T0, tx, nd, rfl, hT0⟩ := OpV.mono hZi _ _ hOp
      have hav2 := (hok av (List.mem_of_getElem? hav)).mono hZi
      have hfv : FVAt Zi av.val (.one av) := ⟨rfl, hav2⟩
      have e1 : ((i : Nat) : Int).toNat = i := rfl
      have e2 : ((va.length : Int) + ((i : Nat) : Int)).toNat = R.fr.length + i := by rw [hva]; rfl
      have hg1 : vb[((i : Nat) : Int).toNat]? = some (Value.ref T0) := by rw [e1]; exact hbv
      have hg2 : (as.map AV.val)[((va.length : Int) + ((i : Nat) : Int)).toNat]? = some av.val := by rw [e2, List.getElem?_map, hav]; rfl
      have hS2i : S2[i]? = some (.nm x, .one av) := by
        rw [← hS2e]
        refine zipP_get (by rw [List.getElem?_map, hpl]; rfl) ?_
        rw [List.getElem?_drop, List.getElem?_take, if_pos (by lia), hav]
      have hfl9 : (fs l2 (S2.take i)).length ≤ K := by
        have := fs_len l2 (S2.take i)
        simp only [List.length_take] at this
        exact fold_le this hi (Nat.le_trans hcl hol) (Nat.le_trans hl2 (Nat.add_le_add_left (by decide) _)) hz
      clear e1 hbv
      obtain ⟨a1, a1'⟩ := off_app (x := I) hI4
      dsimp only [en, envOf] at F4 N4
      k_extra "steps"
      rename_i vo5 _ hv5 F5 N5
      exact turnZ F5 N5 (fun y h1 h2 => by simp [h1]) ((dW, ow4) :: (mD, om4) :: (vD, vo5) :: (E ++ Zi)) (by k_extra "all") (off_cons hI1 (off_cons hI2 (off_cons hI3 hI4)))
        ⟨ow4, om4, vo5, Zi, hZi, hEi, hj1, hj2, hj3, hsi, by rw [fs_snoc l2 hS2i]; exact hv5⟩
    · rintro u2 n₂ h2 tk2 ⟨ow4, om4, vo4, Z4, hZ4, hE4, hj1, hj2, hj3, hs4, hv4⟩ F4 N4
      dsimp only [en, envOf] at F4 N4
      rw [List.take_of_length_le (by lia)] at hv4
      have hl3 : (fs l2 S2).length ≤ l.length + 8 := by
        have := fs_len l2 S2
        lia
      generalize hl3e : fs l2 S2 = l3 at *
      have hstp : StpIf := trivial
      k_extra "steps"
      refine Stp.in ?_
      rename_i F5 N5
      refine @cutX _ _ _ _ _ _ _ _ _ (fun nw => PutS w n rd W dW mD vD E Z (fs l3 (restA R as)) nw) F5 ?_ ?_
      · cases hre : R.re with
        | none =>
          rw [hre] at hr
          cases hr
          k_extra "steps"
          refine CutF.intro F5 N5 _ (by k_extra "all") ⟨ow4, om4, vo4, Z4, hZ4, hE4, hj1, hj2, hj3, hs4, ?_⟩
          simp only [restA, hre, optNe, List.map_nil]
          exact hv4
        | some x =>
          rw [hre] at hr
          obtain ⟨tx, rfl⟩ := hr
          k_extra "steps"
          · refine Stp.in ?_
            rename_i D7 _ _ _ x7 Z7 ow7 om7 _ _ hZ7 ht1 ht2 hs7 hL7 F7 N7 _ ht3 hE7
            have hx0 : x ≠ "" := bne_iff_ne.mp (by assumption)
            have ec : ((va.length : Int) + ((cameA R as : Nat) : Int)).toNat = R.fr.length + cameA R as := by rw [hva]; rfl
            have ed : (((as.map AV.val).length : Int) - (vc.length : Int)).toNat = as.length - R.ba.length := by rw [Int.toNat_sub, hml, hvc]
            rw [ec, ed, ← List.map_take, ← List.map_drop] at hL7
            have hok7 := AVOk.all_mono (hZ4.trans hZ7) hok
            have hfv : FVAt Z7 (.ref x7) (.many ((as.take (as.length - R.ba.length)).drop (R.fr.length + cameA R as))) :=
              ⟨by simp only [List.length_drop, List.length_take]; exact rest30 _ _ hal, fun v hv => hok7 v (List.mem_of_mem_take (List.mem_of_mem_drop hv)), x7, rfl, hL7⟩
            replace N7 := nsub (news' := (dW, ow7) :: (mD, om7) :: (vD, vo4) :: (E ++ Z7)) N7 (by k_extra "all")
            refine @vd_setdefault _ _ _ _ _ _ _ _ _ _ _ _ _ _ _ _ _ _ F7 N7 (by k_updF) (hv4.mono hZ7) lo hfv (by lia) ?_
            intro r8 h8 o8 tk8 hv8 F8 N8
            k_extra "steps"
            refine CutF.intro F8 N8 _ (by k_extra "all") ⟨ow7, om7, o8, Z7, hZ4.trans hZ7, hE7, ht1, ht2, ht3, hs7, ?_⟩
            simp only [restA, hre, optNe, if_neg hx0, List.map_cons, List.map_nil]
            exact hv8
          · have hx1 : (x != "") = false := by assumption
            have hx0 : x = "" := by simpa using hx1
            refine CutF.intro F5 N5 _ (by k_extra "all") ⟨ow4, om4, vo4, Z4, hZ4, hE4, hj1, hj2, hj3, hs4, ?_⟩
            simp only [restA, hre, optNe, if_pos hx0, List.map_nil]
            exact hv4
      · rintro h6 tk6 n6 F6 N6 ⟨ow6, om6, vo6, Z6, hZ6, hE6, hq1, hq2, hq3, hs6, hv6⟩
        have hl6 : (fs l3 (restA R as)).length ≤ l.length + 10 := by
          have := fs_len l3 (restA R as)
          have h2 : (restA R as).length ≤ 1 := by
            unfold restA
            rw [List.length_map]
            unfold optNe
            split
            · exact Nat.zero_le 1
            · split <;> simp
          lia
        generalize hl6e : fs l3 (restA R as) = l6 at *
        k_extra "steps"
        refine Stp.in ?_
        rename_i _ _ _ _ _ R7 F7 N7 _
        have hS3 : (zipP R.ba (as.drop (as.length - R.ba.length))).length = R.ba.length := by
          rw [zipP_len, List.length_drop]; exact back_len hle
        generalize hS3e : zipP R.ba (as.drop (as.length - R.ba.length)) = S3 at *
        refine @rangeZ _ _ _ _ _ _ _ _ _ _ _ _ _ _ _ _ _ [] vc.length (fun i nw => PutS w n rd W dW mD vD E Z (fs l6 (S3.take i)) nw) rfl R7 (by lia) (by lia) (by lia) F7 N7 ⟨ow6, om6, vo6, Z6, hZ6, hE6, hq1, hq2, hq3, hs6, hv6⟩ ?_ ?_
        · rintro i t u8 n₈ I io h8 tk8 hi ⟨ow8, om8, vo8, Zi, hZi, hEi, ho1, ho2, ho3, hsi, hvi⟩ hI F8 N8
          refine off3 hI fun hI1 hI2 hI3 hI4 => ?_
          obtain ⟨pv, hpv⟩ : ∃ pv, vc[i]? = some pv := ⟨_, List.getElem?_eq_getElem hi⟩
          obtain ⟨av, hav⟩ : ∃ av, as[as.length - R.ba.length + i]? = some av := ⟨_, List.getElem?_eq_getElem (by lia)⟩
          obtain ⟨pl, hpl, hPP⟩ := hc.get hpv
          have hC1 := HC pl (List.mem_append_right _ (List.mem_of_getElem? hpl))
          have hav2 := (hok av (List.mem_of_getElem? hav)).mono hZi
          replace hPP := PPl.mono hZi _ _ hPP
          have e1 : ((i : Nat) : Int).toNat = i := rfl
          have e2 : (((as.map AV.val).length : Int) - (vc.length : Int) + ((i : Nat) : Int)).toNat = as.length - R.ba.length + i := by rw [hml, hvc]; exact ti_sub_add _ (Nat.le_trans (Nat.le_add_left _ _) hle)
          have hg1 : vc[((i : Nat) : Int).toNat]? = some pv := by rw [e1]; exact hpv
          have hg2 : (as.map AV.val)[(((as.map AV.val).length : Int) - (vc.length : Int) + ((i : Nat) : Int)).toNat]? = some av.val := by rw [e2, List.getElem?_map, hav]; rfl
          have hS3i : S3[i]? = some (pl, .one av) := by
            rw [← hS3e]
            exact zipP_get hpl (by rw [List.getElem?_drop, hav])
          have hfl9 : (fs l6 (S3.take i)).length ≤ K := by
            have := fs_len l6 (S3.take i)
            simp only [List.length_take] at this
            exact fold_le this (hvc ▸ hi) hbl hl6 hz
          clear e1 e2 hpv
          obtain ⟨a1, a1'⟩ := off_app (x := I) hI4
          dsimp only [en, envOf] at F8 N8
          k_extra "steps"
          rename_i r3 Z3 ow3 om3 vo3 h3 tk3 hZ3 ho13 ho23 ho33 hs3 hv3 F3 N3 hoI3 hE3
          exact turnZ F3 N3 (fun y h1 h2 => by simp [h1]) ((dW, ow3) :: (mD, om3) :: (vD, vo3) :: (E ++ Z3)) (by k_extra "all") (off_cons hI1 (off_cons hI2 (off_cons hI3 (off_join a1 hoI3))))
            ⟨ow3, om3, vo3, Z3, hZi.trans hZ3, hE3, ho13, ho23, ho33, hs3, by rw [fs_snoc l6 hS3i]; exact hv3⟩
        · rintro u8 n₈ h8 tk8 ⟨ow8, om8, vo8, Z8, hZ8, hE8, ho1, ho2, ho3, hs8, hv8⟩ F8 N8
          dsimp only [en, envOf] at F8 N8
          rw [List.take_of_length_le (by lia)] at hv8
          have efin : fs l (specA R as) = fs l6 S3 := by
            unfold specA
            rw [fs_app, fs_app, fs_app, hl2e, hS2e, hl3e, hl6e, hS3e]
          rw [← efin] at hv8
          k_extra "steps"
          rename_i kF kN _ _
          exact hret _ Z8 ow8 om8 vo8 _ _ hZ8 hE8 ho1 ho2 ho3 hs8 hv8 kF (nsub kN (by k_extra "all"))
end
end
section
theorem lines_11 : True := by
  k_with "own call builtin:isinstance" => ((fail_if_success fail_if_success with_reducible rename Pt 22 => hg9); (k_here; (with_reducible show wpAny _ _ (call _ [Value.int _ _, Value.ref 261]) _ _ _); k_dflt (refine @isn_iL _ _ _ _ _ _ _ (by k_in) ?_; k_whole)))
  k_with "own call builtin:isinstance" => ((fail_if_success fail_if_success with_reducible rename Pt 22 => hg9); (k_here; (with_reducible show wpAny _ _ (call _ [Value.none, Value.ref 261]) _ _ _); k_dflt (refine @isn_nL _ _ _ _ _ (by k_in) ?_; k_whole)))
  k_with "own call builtin:isinstance" => ((fail_if_success fail_if_success with_reducible rename Pt 22 => hg9); (k_here; (with_reducible show wpAny _ _ (call _ [Value.ref _, Value.ref 261]) _ _ _); k_dflt (refine @isi_L _ _ _ _ _ _ _ _ (by k_in) (InstAt.of_news (by k_asm) (by k_mem) (by k_mem)) ?_; k_whole)))
  k_with "own getAttr ref" => ((fail_if_success fail_if_success with_reducible rename Pt 22 => hg9); (k_here; k_dflt (refine @get_own _ _ _ _ _ _ _ _ _ _ _ _ _ _ _ _ _ _ _ (by k_asm) (by k_asm) (by k_inst) (by k_is) (by k_is) (by k_is) (by k_is) (by with_reducible assumption) (by k_handed) ?_; k_whole)))
  trivial
section
variable {w : World} {p : Program} {loose : List Str} {mean : ExcName → Option Value} {mg mb : Str → Option Value} {dp un : Nat} {gd : Option (List Code)} {cn : Str} {cs : Scope} {a : Addr} {ccd : Value} {cl : List (Str × Addr)} {outer : List Env} {A₀ : Around} {base h₀ : Heap} {L : Addr} {m : Str → Option Value} {s : Shared} {Q E' : Value → Shared → Prop}
theorem its_use {av : AV} {Z news : Led}
    (B : Below A₀ base outer h₀) (F : Fr h₀ L s.heap m) (X : (hd.heap_39 w.params).In h₀) (T : Top p loose mean mg mb h₀) (hk : cs.kind = .function) (hd : dp + 3 < recursionLimit) (hu : un + 30 < cLine)
    (N : News h₀ L s.heap news) (hZ : Ext Z news) (hav : AVOk Z av)
    (hret : ∀ D c h' tk', Fr h₀ L h' m → News h₀ L h' ((D, PySem.W.listOf (av.its.map AV.val).toArray c) :: news) → (∀ q ∈ news, q.1 < D) → Q (.ref D) { s with heap := h', toks := tk' }) :
    wpAny (model PG w) (ktrTop dp un gd cn cs L a ccd cl outer) (call (.ref 504) [av.val]) Q E' s := by
  have hpt9 : Pt 22 := trivial
  refine @wpAny_call _ _ _ _ _ _ _ _ ?_
  cases hav with
  | none =>
    dsimp only [AV.val]
    k_dflt k_extra "enterC"
    k_extra "steps"
    rename_i kF kN _ _
    exact hret _ _ _ _ kF kN (by assumption)
  | int =>
    dsimp only [AV.val]
    k_dflt k_extra "enterC"
    k_extra "steps"
    rename_i kF kN _ _
    exact hret _ _ _ _ kF kN (by assumption)
  | ar hlen hLA hits =>
    obtain ⟨dx, es, n, li, nl, kn, tn, q1, q2, q3, q4, q5⟩ := hLA
    dsimp only [AV.val]
    k_dflt k_extra "enterC"
    k_extra "steps"
    rename_i kF kN _ _
    exact hret _ _ _ _ kF kN (by assumption)
end
end
section
theorem lines_12 : True := by
  k_with "own call ref" => ((fail_if_success fail_if_success with_reducible rename Pt 35 => hg9); (k_here; (with_reducible show wpAny _ _ (call (Value.ref 504) [_]) _ _ _); k_dflt ((refine' its_use (by k_asm) (by k_asm) (by k_asm) (by k_asm) (by first | exact rfl | assumption) (by ktr_room) (by ktr_units) (by k_asm) ?_ (by with_reducible assumption) ?_); (focus k_extra "all")); intro _ _ _ _ _ _ l1'; (try dsimp only); (first | k_lt l1' | (revert l1'; intro _)); (try k_sweep)))
  k_with "own call ref" => ((fail_if_success fail_if_success with_reducible rename Pt 35 => hg9); (k_here; (with_reducible show wpAny _ _ (call (Value.ref 497) [_, _]) _ _ _); refine Stp.out ?_))
  k_with "own call ref" => ((fail_if_success fail_if_success with_reducible rename Pt 35 => hg9); (k_here; (with_reducible show wpAny _ _ (call (Value.ref 518) [_, _, _, _]) _ _ _); refine Stp.out ?_))
  trivial
theorem put_group (w : World) (n : Nat) (x y : Str) {K : Nat} (hK : K + 12 ≤ 900) : PutC w n (2 * n + 40) (100 * n + 700) K (.gp x y) := by
  have hp29 : Pt 2 := trivial
  have hpt9 : Pt 35 := trivial
  constructor
  intro p loose mean mg mb dp un gd cn cs a ccd cl outer A₀ base h₀ L m s Q E' W dW mD vD ow om vo rd l pv av Z E B F X T hk hd hu N h12 h13 h23 o1 o2 o3 hE hs hv lo hz hP hav hret
  obtain ⟨ga, tx, ty, rfl, hPA⟩ := hP
  have hMA : MadeAt Z ga (gRow x y) := ⟨_, _, _, _, _, hPA, .cons ⟨tx, rfl⟩ (.cons ⟨ty, rfl⟩ .nil), .nil, rfl, .nil, rfl, Nat.le_refl 2, Nat.zero_le 2, Nat.zero_le 2⟩
  obtain ⟨dx, lr, lo1, lp, nr, no, np, es, n1, p1, p2, ⟨q1, q2, q3, q4, q5, t1, t2, t3, t4, t5, rfl⟩, p4, p5, p6⟩ := hPA
  have o1E := off_appL o1
  have o1Z := off_appR o1
  have o2E := off_appL o2
  have o2Z := off_appR o2
  have o3E := off_appL o3
  have o3Z := off_appR o3
  have hil := hav.its_len
  have hio := hav.its
  refine @wpAny_call _ _ _ _ _ _ _ _ ?_
  k_dflt k_extra "enterC"
  k_extra "steps"
  refine Stp.in ?_
  rename_i D1 c1 _ _ F1 N1 l1 hot1
  refine and4 l1 fun l11 l12 l13 _ => ?_
  have N2 := nsub (news' := (dW, ow) :: (mD, om) :: (vD, vo) :: (E ++ ((D1, PySem.W.listOf (av.its.map AV.val).toArray c1) :: Z))) N1 (by k_extra "all")
  have hE2 : OffAll ((dW, ow) :: (mD, om) :: (vD, vo) :: E) ((D1, PySem.W.listOf (av.its.map AV.val).toArray c1) :: Z) :=
    ⟨off_cons (Ne.symm (Nat.ne_of_lt l11)) o1Z, off_cons (Ne.symm (Nat.ne_of_lt l12)) o2Z, off_cons (Ne.symm (Nat.ne_of_lt l13)) o3Z, offAll_cons hE (off_appL hot1)⟩
  k_dflt (refine' fit_use (R := gRow x y) (as := av.its) ?B ?F ?X ?T ?hk ?hd ?hu N2 ?S hE2 ?hP List.mem_cons_self ?hal ?_; (case B => k_asm); (case F => k_asm); (case X => k_asm); (case T => k_asm); (case hk => first | exact rfl | assumption); (case hd => ktr_room); (case hu => ktr_units); (case S => exact Spl.cons (Spl.cons (Spl.cons Spl.app))); (case hP => exact hMA.mono Ext.refl.cons); (case hal => lia))
  intro la na Z2 h2 tk2 hZ2 hOE2 hla F2 N3
  obtain ⟨hp1, hp2, hp3, hpE⟩ := hOE2
  simp only [List.cons_append] at N3
  have hZ3 : Ext Z Z2 := fun q hq => hZ2 q (List.mem_cons_of_mem _ hq)
  have hfl := fitA_le (gRow x y) av.its
  have hfl2 := fitA_len (gRow x y) av.its
  have hgl : (gRow x y).fr.length + (gRow x y).ba.length = 2 := rfl
  k_extra "steps"
  refine Stp.in ?_
  have hHC : ∀ pl, pl ∈ (gRow x y).fr ++ (gRow x y).ba → PutC w n 4 40 (K + 12) pl := by
    intro pl hpl
    have e : (gRow x y).fr ++ (gRow x y).ba = [.nm x, .nm y] := rfl
    rw [e] at hpl
    rcases List.mem_cons.mp hpl with rfl | hpl
    · exact put_name n x hK
    · rw [List.mem_singleton.mp hpl]; exact put_name n y hK
  have hq1 : ∀ q ∈ E ++ Z2, q.1 ≠ dW := off_join o1E hp1
  have hq2 : ∀ q ∈ E ++ Z2, q.1 ≠ mD := off_join o2E hp2
  have hq3 : ∀ q ∈ E ++ Z2, q.1 ≠ vD := off_join o3E hp3
  k_dflt (refine' pal_use (R := gRow x y) (as := fitA (gRow x y) av.its) hHC hK ?B ?F ?X ?T ?hk ?hd ?hd2 ?hu ?hu2 N3 .head .head .head .app h12 h13 h23 hq1 hq2 hq3 hpE (hs.mono hZ3 (Nat.le_refl _)) (hv.mono hZ3) lo ?hz (hMA.mono hZ3) hla ?hal ?hle (fitA_ok (AVOk.all_mono hZ3 hio)) ?_; (case B => k_asm); (case F => k_asm); (case X => k_asm); (case T => k_asm); (case hk => first | exact rfl | assumption); (case hd => ktr_room); (case hd2 => ktr_room); (case hu => ktr_units); (case hu2 => ktr_units); (case hz => lia); (case hal => lia); (case hle => lia))
  intro t5 Z5 ow5 om5 vo5 h5 tk5 hZ5 hE5 hr1 hr2 hr3 hs5 hv5 F5 N5
  rw [gRow_spread] at hv5
  k_extra "steps"
  rename_i kF kN _ _
  exact hret _ Z5 ow5 om5 vo5 _ _ (hZ3.trans hZ5) hE5 hr1 hr2 hr3 hs5 hv5 kF (nsub kN (by k_extra "all"))
end
section
theorem PutC.mono {w : World} {n D U K D' U' : Nat} {pl : Pl} (h : PutC w n D U K pl) (hD : D ≤ D') (hU : U ≤ U') : PutC w n D' U' K pl :=
  ⟨fun B F X T hk hd hu => h.use B F X T hk (by lia) (by lia)⟩
theorem put_any (w : World) (n : Nat) (pl : Pl) : PutC w n (2 * n + 40) (100 * n + 700) 800 pl := by
  cases pl with
  | nm x => exact (put_name n x (by decide)).mono (by lia) (by lia)
  | gp x y => exact put_group w n x y (by decide)
theorem lines_13 : True := by
  k_with "own exec If" => ((fail_if_success fail_if_success with_reducible rename Pt 12 => hg9); (k_here; (with_reducible show wpAny _ _ (exec (Stmt.If (Expr.BoolOp BoolOp.And _ _) _ _ _) _) _ _ _); (with_reducible rename StpE => hstp9); clear hstp9; refine Stp.out ?_))
  k_with "own subscriptTail Name Constant ref int" => ((fail_if_success fail_if_success with_reducible rename Pt 12 => hg9); (k_here; (with_reducible show wpAny _ _ (subscriptTail _ _ (Value.ref _) (Value.int _ _)) _ _ _); k_dflt (refine @item_at _ _ _ _ _ _ _ _ _ _ _ _ _ _ _ _ _ (by k_asm) (by k_mem) (by with_reducible assumption) (by decide) (by exact Nat.le_of_ble_eq_true rfl) ?_ (by with_unfolding_all rfl); k_whole)))
  trivial
def placesN (R : Row) : Nat := R.fr.length + R.ba.length + R.op.length + (if R.re = none then 0 else 1)
def laidA (R : Row) : List AV → List AV
  | [.ar a its] => if placesN R > 1 then its else [.ar a its]
  | as => as
theorem laidA_ne {R : Row} {as : List AV} (h : as.length ≠ 1) : laidA R as = as := by
  match as, h with
  | [], _ => rfl
  | [_], h => exact absurd rfl h
  | .lf _ :: _ :: _, _ => rfl
  | .ar _ _ :: _ :: _, _ => rfl
theorem laidA_ok {Z : Led} {R : Row} {as : List AV} (h : ∀ v ∈ as, AVOk Z v) : ∀ v ∈ laidA R as, AVOk Z v := by
  unfold laidA
  split
  · split
    · exact (h _ List.mem_cons_self).its
    · exact h
  · exact h
def fitsA (R : Row) (as : List AV) : Prop := R.fr.length + R.ba.length ≤ as.length ∧ (R.re = none → as.length ≤ R.fr.length + R.op.length + R.ba.length)
theorem fitA_fits {R : Row} {as : List AV} (h : fitsA R as) : fitA R as = as := by
  unfold fitA
  have e : R.fr.length + R.ba.length - as.length = 0 := Nat.sub_eq_zero_of_le h.1
  rw [e, List.replicate_zero, List.append_nil]
  by_cases hr : R.re = none
  · simp only [if_pos hr]; exact List.take_of_length_le (h.2 hr)
  · simp only [if_neg hr]
inductive IsBnd (w : World) (Z : Led) (T : Addr) (R : Row) (fa : List AV) : Prop
  | mk (vD : Addr) (vo : Obj) (t : Tok) (h1 : (T, tupOf #[.ref vD, .int (cameA R fa : Nat) t]) ∈ Z) (h2 : (vD, vo) ∈ Z) (h3 : VD w Z vo (fs [] (specA R fa))) (h4 : (vD == sysModules) = false)
theorem lines_14 : True := by
  k_with "own call builtin:isinstance" => ((fail_if_success fail_if_success with_reducible rename Pt 12 => hg9); (k_here; (with_reducible show wpAny _ _ (call _ [Value.int _ _, Value.ref 261]) _ _ _); k_dflt (refine @isn_iL _ _ _ _ _ _ _ (by k_in) ?_; k_whole)))
  k_with "own call builtin:isinstance" => ((fail_if_success fail_if_success with_reducible rename Pt 12 => hg9); (k_here; (with_reducible show wpAny _ _ (call _ [Value.none, Value.ref 261]) _ _ _); k_dflt (refine @isn_nL _ _ _ _ _ (by k_in) ?_; k_whole)))
  k_with "own call builtin:isinstance" => ((fail_if_success fail_if_success with_reducible rename Pt 12 => hg9); (k_here; (with_reducible show wpAny _ _ (call _ [Value.ref _, Value.ref 261]) _ _ _); k_dflt (refine @isi_L _ _ _ _ _ _ _ _ (by k_in) (InstAt.of_news (by k_asm) (by k_mem) (by k_mem)) ?_; k_whole)))
  k_with "own getAttr ref" => ((fail_if_success fail_if_success with_reducible rename Pt 12 => hg9); (k_here; k_dflt (refine @get_own _ _ _ _ _ _ _ _ _ _ _ _ _ _ _ _ _ _ _ (by k_asm) (by k_asm) (by k_inst) (by k_is) (by k_is) (by k_is) (by k_is) (by with_reducible assumption) (by k_handed) ?_; k_whole)))
  k_with "own call ref" => ((fail_if_success fail_if_success with_reducible rename Pt 12 => hg9); (k_here; (with_reducible show wpAny _ _ (call (Value.ref 450) [_]) _ _ _); k_dflt (refine @wpAny_call _ _ _ _ _ _ _ _ ?_; k_extra "enterT")))
  k_with "own call ref" => ((fail_if_success fail_if_success with_reducible rename Pt 12 => hg9); (k_here; (with_reducible show wpAny _ _ (call (Value.ref 457) [_]) _ _ _); k_dflt (refine @wpAny_call _ _ _ _ _ _ _ _ ?_; k_extra "enterT")))
  k_with "own call ref" => ((fail_if_success fail_if_success with_reducible rename Pt 12 => hg9); (k_here; (with_reducible show wpAny _ _ (call (Value.ref 464) [_]) _ _ _); k_dflt (refine @wpAny_call _ _ _ _ _ _ _ _ ?_; k_extra "enterT")))
  k_with "own call ref" => ((fail_if_success fail_if_success with_reducible rename Pt 12 => hg9); (k_here; (with_reducible show wpAny _ _ (call (Value.ref 478) [_, _, _, _]) _ _ _); k_dflt (refine @wpAny_call _ _ _ _ _ _ _ _ ?_; k_extra "enterT")))
  k_with "own call ref" => ((fail_if_success fail_if_success with_reducible rename Pt 12 => hg9); (k_here; (with_reducible show wpAny _ _ (call (Value.ref 497) [_, _]) _ _ _); refine Stp.out ?_))
  k_with "own call ref" => ((fail_if_success fail_if_success with_reducible rename Pt 12 => hg9); (k_here; (with_reducible show wpAny _ _ (call (Value.ref 518) [_, _, _, _]) _ _ _); refine Stp.out ?_))
  trivial
section
variable {w : World} {p : Program} {loose : List Str} {mean : ExcName → Option Value} {mg mb : Str → Option Value} {dp un : Nat} {gd : Option (List Code)} {cn : Str} {cs : Scope} {a : Addr} {ccd : Value} {cl : List (Str × Addr)} {outer : List Env} {A₀ : Around} {base h₀ : Heap} {L : Addr} {m : Str → Option Value} {s : Shared} {Q E' : Value → Shared → Prop}
def boundA (strict : Bool) (R : Row) (as : List AV) : List AV := fitA R (if strict then as else laidA R as)
inductive BndJ (vD dW mD : Addr) (vo ow om : Obj) (E Z : Led) (sp : List AV) : Value → Led → Prop
  | mk (l : Addr) (nl : Nat) (Zi : Led) (c1 : Ext Z Zi) (c2 : OffAll E Zi) (c3 : ∀ q ∈ Zi, q.1 ≠ vD) (c4 : ∀ q ∈ Zi, q.1 ≠ dW) (c5 : ∀ q ∈ Zi, q.1 ≠ mD) (c6 : (l, PySem.W.listOf (sp.map AV.val).toArray nl) ∈ Zi) : BndJ vD dW mD vo ow om E Z sp (.ref l) ((vD, vo) :: (dW, ow) :: (mD, om) :: (E ++ Zi))
theorem bnd_use {strict : Bool} {n : Nat} {W dW mD pa la : Addr} {ow om : Obj} {rd : Bool} {R : Row} {as : List AV} {na : Nat} {tb : Tok} {Z Rr R1 E news : Led}
    (B : Below A₀ base outer h₀) (F : Fr h₀ L s.heap m) (X : (hd.heap_39 w.params).In h₀) (T : Top p loose mean mg mb h₀) (hk : cs.kind = .function) (hd : dp + 2 * n + 60 < recursionLimit) (hu : un + 100 * n + 1000 < cLine)
    (hs : WSt w Z W dW mD ow om rd n) (N : News h₀ L s.heap news) (P : Pick dW ow news R1) (P2 : Pick mD om R1 Rr) (S : Spl Z Rr E) (hne : @Ne Nat dW mD) (ho : ∀ p ∈ Rr, p.1 ≠ dW) (ho2 : ∀ p ∈ Rr, p.1 ≠ mD) (hE : OffAll E Z)
    (hP : MadeAt Z pa R) (hA : (la, PySem.W.listOf (as.map AV.val).toArray na) ∈ Z) (hal : as.length ≤ 30) (hok : ∀ v ∈ as, AVOk Z v) (hll : (laidA R as).length ≤ 30) (hfit : strict = true → fitsA R as)
    (hret : ∀ T Z' ow' om' h' tk', Ext Z Z' → OffAll E Z' → (∀ q ∈ Z', q.1 ≠ dW) → (∀ q ∈ Z', q.1 ≠ mD) → WSt w Z' W dW mD ow' om' rd n → IsBnd w Z' T R (boundA strict R as) → Fr h₀ L h' m → News h₀ L h' ((dW, ow') :: (mD, om') :: (E ++ Z')) → Q (.ref T) { s with heap := h', toks := tk' }) :
    wpAny (model PG w) (ktrTop dp un gd cn cs L a ccd cl outer) (call (.ref 525) [.ref W, .ref pa, .ref la, .bool strict]) Q E' s := by
  have hp29 : Pt 2 := trivial
  have hpt9 : Pt 12 := trivial
  have N1 : News h₀ L s.heap ((dW, ow) :: (mD, om) :: (E ++ Z)) := nsub N fun p hp => P.sub _ (by
    rcases List.mem_cons.mp hp with rfl | hp
    · exact List.mem_cons_self
    · exact List.mem_cons_of_mem _ (P2.sub _ (S.eq ▸ hp)))
  rw [S.eq] at ho ho2
  clear N P P2 S
  have o1E := off_appL ho
  have o1Z := off_appR ho
  have o2E := off_appL ho2
  have o2Z := off_appR ho2
  have hMA := hP
  obtain ⟨va, vb, rv, vc, bv, hp, ha, hb, hr, hc, hbv, hfl, hol, hbl⟩ := hP
  obtain ⟨dx, lr, lo1, lp, nr, no, np, es, n1, p1, p2, ⟨q1, q2, q3, q4, q5, t1, t2, t3, t4, t5, rfl⟩, p4, p5, p6⟩ := hp
  have hva : va.length = R.fr.length := ha.len
  have hvb : vb.length = R.op.length := hb.len
  have hvc : vc.length = R.ba.length := hc.len
  have hml : (as.map AV.val).length = as.length := List.length_map ..
  have hstp : StpIf := trivial
  refine @wpAny_call _ _ _ _ _ _ _ _ ?_
  k_dflt k_extra "enterC"
  k_extra "steps"
  refine Stp.in ?_
  rename_i D1 c1 _ l1 hot1 vD _ vo lo hvo _ _ _ l2 hot2 _ _ _ _ _ _ _ F1 N1'
  refine and3 l1 fun hd1 hd2 _ => ?_
  refine and4 l2 fun he1 he2 he3 _ => ?_
  have hs1 := off_appL hot2
  have hs2 := off_appR hot2
  have hs3 := off_appL hot1
  have hs4 := off_appR hot1
  refine @cutX1 _ _ _ _ _ _ _ _ _ (Str.ofString "args") (BndJ vD dW mD vo ow om E Z (boundA strict R as)) F1 ?_ ?_
  · cases strict with
    | true =>
      obtain ⟨hfit1, hfit2⟩ := hfit rfl
      have ebd : boundA true R as = as := fitA_fits ⟨hfit1, hfit2⟩
      rw [ebd]
      cases hre : R.re with
      | none =>
        rw [hre] at hr
        cases hr
        replace hfit2 := hfit2 hre
        k_extra "steps"
        rename_i kF kN _ _
        exact CutF1.intro kF kN (fun y _ => rfl) rfl ((vD, vo) :: (dW, ow) :: (mD, om) :: (E ++ ((D1, PySem.W.listOf (as.map AV.val).toArray c1) :: Z))) (by k_extra "all")
          ⟨D1, c1, _, Ext.refl.cons, offAll_cons hE hs3, off_cons (Nat.ne_of_lt he1) hs2, off_cons (Ne.symm (Nat.ne_of_lt hd1)) o1Z, off_cons (Ne.symm (Nat.ne_of_lt hd2)) o2Z, List.mem_cons_self⟩
      | some x =>
        rw [hre] at hr
        obtain ⟨tx, rfl⟩ := hr
        k_extra "steps"
        rename_i kF kN _ _
        exact CutF1.intro kF kN (fun y _ => rfl) rfl ((vD, vo) :: (dW, ow) :: (mD, om) :: (E ++ ((D1, PySem.W.listOf (as.map AV.val).toArray c1) :: Z))) (by k_extra "all")
          ⟨D1, c1, _, Ext.refl.cons, offAll_cons hE hs3, off_cons (Nat.ne_of_lt he1) hs2, off_cons (Ne.symm (Nat.ne_of_lt hd1)) o1Z, off_cons (Ne.symm (Nat.ne_of_lt hd2)) o2Z, List.mem_cons_self⟩
    | false =>
      have hstp : StpE := trivial
      k_extra "steps"
      refine Stp.in ?_
      replace N1' := nsub (news' := (vD, vo) :: (dW, ow) :: (mD, om) :: (E ++ ((D1, PySem.W.listOf (as.map AV.val).toArray c1) :: Z))) N1' (by k_extra "all")
      refine @cutX1 _ _ _ _ _ _ _ _ _ (Str.ofString "args") (BndJ vD dW mD vo ow om E Z (laidA R as)) F1 ?_ ?_
      · have hJ : laidA R as = as → BndJ vD dW mD vo ow om E Z (laidA R as) (.ref D1) ((vD, vo) :: (dW, ow) :: (mD, om) :: (E ++ ((D1, PySem.W.listOf (as.map AV.val).toArray c1) :: Z))) := fun e =>
          ⟨D1, c1, _, Ext.refl.cons, offAll_cons hE hs3, off_cons (Nat.ne_of_lt he1) hs2, off_cons (Ne.symm (Nat.ne_of_lt hd1)) o1Z, off_cons (Ne.symm (Nat.ne_of_lt hd2)) o2Z, by rw [e]; exact List.mem_cons_self⟩
        refine AVOk.args hok (fun e => ?_) (fun kv tv e => ?_) (fun ax its hlen hLA e => ?_) (fun hne => ?_)
        · have N9 := N1'
          rw [e] at N9
          simp only [List.map_cons, List.map_nil, AV.val] at N9
          have hg0 : [Value.none][(0 : Int).toNat]? = some Value.none := rfl
          k_extra "steps"
          exact CutF1.intro F1 N1' (fun y _ => rfl) rfl _ (fun _ h => h) (hJ (by rw [e]; rfl))
        · have N9 := N1'
          rw [e] at N9
          simp only [List.map_cons, List.map_nil, AV.val] at N9
          have hg0 : [Value.int kv tv][(0 : Int).toNat]? = some (Value.int kv tv) := rfl
          k_extra "steps"
          · exact CutF1.intro F1 N1' (fun y _ => rfl) rfl _ (fun _ h => h) (hJ (by rw [e]; rfl))
          · exact absurd (rfl : ((([Value.int kv tv] : List Value).length : Nat) : Int) = 1) (by assumption)
        · have N9 := N1'
          rw [e] at N9
          simp only [List.map_cons, List.map_nil, AV.val] at N9
          · obtain ⟨dxl, esl, nnl, li, nli, kln, tln, ql1, ql2, ql3, ql4, ql5⟩ := hLA
            have hg0 : [Value.ref ax][(0 : Int).toNat]? = some (Value.ref ax) := rfl
            cases hre : R.re with
            | none =>
              rw [hre] at hr
              cases hr
              k_extra "steps"
              · rename_i hgt _ D2 c2 _ l2' hot2' _ F2 N2
                refine and4 l2' fun k1 k2 k3 _ => ?_
                have hpl : placesN R > 1 := by
                  (try simp only [Bool.false_eq_true, if_false, if_true] at hgt)
                  unfold placesN; rw [hre]; simp only [Bool.false_eq_true, if_false, if_true]; lia
                have el : laidA R as = its := by rw [e]; exact if_pos hpl
                exact CutF1.intro F2 N2 (fun y hy => by simp only [List.contains_cons, List.contains_nil, Bool.or_false, beq_eq_false_iff_ne, ne_eq] at hy; simp [hy]) rfl ((vD, vo) :: (dW, ow) :: (mD, om) :: (E ++ ((D2, PySem.W.listOf (its.map AV.val).toArray c2) :: Z))) (by k_extra "all")
                  ⟨D2, c2, _, Ext.refl.cons, offAll_cons hE (off_appL hot2'), off_cons (Ne.symm (Nat.ne_of_lt k1)) hs2, off_cons (Ne.symm (Nat.ne_of_lt k2)) o1Z, off_cons (Ne.symm (Nat.ne_of_lt k3)) o2Z, by rw [el]; exact List.mem_cons_self⟩
              · rename_i kF kN _ _ hgt
                have hpl : ¬ placesN R > 1 := by
                  (try simp only [Bool.false_eq_true, if_false, if_true] at hgt)
                  unfold placesN; rw [hre]; simp only [Bool.false_eq_true, if_false, if_true]; lia
                exact CutF1.intro kF kN (fun y _ => rfl) rfl _ (fun _ h => h) (by have h9 := hJ (by rw [e]; exact if_neg hpl); rw [e] at h9 ⊢; exact h9)
              · exact absurd (rfl : ((([Value.ref ax] : List Value).length : Nat) : Int) = 1) (by assumption)
            | some x =>
              rw [hre] at hr
              obtain ⟨tx, rfl⟩ := hr
              k_extra "steps"
              · rename_i hgt _ D2 c2 _ l2' hot2' _ F2 N2
                refine and4 l2' fun k1 k2 k3 _ => ?_
                have hpl : placesN R > 1 := by
                  (try simp only [if_true, reduceCtorEq, if_false] at hgt)
                  unfold placesN; rw [hre]; simp only [if_true, reduceCtorEq, if_false]; lia
                have el : laidA R as = its := by rw [e]; exact if_pos hpl
                exact CutF1.intro F2 N2 (fun y hy => by simp only [List.contains_cons, List.contains_nil, Bool.or_false, beq_eq_false_iff_ne, ne_eq] at hy; simp [hy]) rfl ((vD, vo) :: (dW, ow) :: (mD, om) :: (E ++ ((D2, PySem.W.listOf (its.map AV.val).toArray c2) :: Z))) (by k_extra "all")
                  ⟨D2, c2, _, Ext.refl.cons, offAll_cons hE (off_appL hot2'), off_cons (Ne.symm (Nat.ne_of_lt k1)) hs2, off_cons (Ne.symm (Nat.ne_of_lt k2)) o1Z, off_cons (Ne.symm (Nat.ne_of_lt k3)) o2Z, by rw [el]; exact List.mem_cons_self⟩
              · rename_i kF kN _ _ hgt
                have hpl : ¬ placesN R > 1 := by
                  (try simp only [if_true, reduceCtorEq, if_false] at hgt)
                  unfold placesN; rw [hre]; simp only [if_true, reduceCtorEq, if_false]; lia
                exact CutF1.intro kF kN (fun y _ => rfl) rfl _ (fun _ h => h) (by have h9 := hJ (by rw [e]; exact if_neg hpl); rw [e] at h9 ⊢; exact h9)
              · exact absurd (rfl : ((([Value.ref ax] : List Value).length : Nat) : Int) = 1) (by assumption)
        · k_extra "steps"
          · rename_i hx
            exact absurd (by lia) hne
          · exact CutF1.intro F1 N1' (fun y _ => rfl) rfl _ (fun _ h => h) (hJ (laidA_ne hne))
      · rintro v h4 tk4 n4 F4 N4 ⟨l4, nl4, Z4, hZ4, hE4, hi1, hi2, hi3, hl4⟩
        k_extra "steps"
        refine Stp.in ?_
        have hE4' : OffAll ((vD, vo) :: (dW, ow) :: (mD, om) :: E) Z4 := ⟨hi1, hi2, hi3, hE4⟩
        k_dflt (refine' fit_use (R := R) (as := laidA R as) ?B ?F ?X ?T ?hk ?hd ?hu N4 ?S hE4' ?hP hl4 ?hal ?_; (case B => k_asm); (case F => k_asm); (case X => k_asm); (case T => k_asm); (case hk => first | exact rfl | assumption); (case hd => ktr_room); (case hu => ktr_units); (case S => exact Spl.cons (Spl.cons (Spl.cons Spl.app))); (case hP => exact hMA.mono hZ4); (case hal => lia))
        intro l5 n5 Z5 h5 tk5 hZ5 hOE5 hl5 F5 N5
        obtain ⟨hp1, hp2, hp3, hpE⟩ := hOE5
        simp only [List.cons_append] at N5
        k_extra "steps"
        rename_i kF kN
        exact CutF1.intro kF kN (fun y hy => by simp only [List.contains_cons, List.contains_nil, Bool.or_false, beq_eq_false_iff_ne, ne_eq] at hy; simp [hy]) rfl ((vD, vo) :: (dW, ow) :: (mD, om) :: (E ++ Z5)) (by k_extra "all") ⟨l5, n5, Z5, hZ4.trans hZ5, hpE, hp1, hp2, hp3, hl5⟩
  · rintro v h6 tk6 n6 F6 N6 ⟨l6, nl6, Z6, hZ6, hE6, hj1, hj2, hj3, hl6⟩
    have hbl : (boundA strict R as).length ≤ 30 := by
      unfold boundA
      refine Nat.le_trans (fitA_le R _) (Nat.max_le.2 ⟨?_, Nat.le_trans (Nat.add_le_add hfl hbl) (by decide)⟩)
      cases strict
      · exact hll
      · exact hal
    have hbk : R.fr.length + R.ba.length ≤ (boundA strict R as).length := fitA_len R _
    have hbo : ∀ v ∈ boundA strict R as, AVOk Z v := by
      unfold boundA
      refine fitA_ok ?_
      cases strict
      · exact laidA_ok hok
      · exact hok
    have hbo' := AVOk.all_mono hZ6 hbo
    k_extra "steps"
    refine Stp.in ?_
    have hq1 : ∀ q ∈ (E ++ Z6), q.1 ≠ dW := off_join o1E hj2
    have hq2 : ∀ q ∈ (E ++ Z6), q.1 ≠ mD := off_join o2E hj3
    have hq3 : ∀ q ∈ (E ++ Z6), q.1 ≠ vD := off_join hs1 hj1
    have hvd : VD w Z6 vo [] := ⟨[], hvo, .nil⟩
    k_dflt (refine' pal_use (R := R) (as := boundA strict R as) (K := 800) (fun pl _ => put_any w n pl) (by decide) ?B ?F ?X ?T ?hk ?hd ?hd2 ?hu ?hu2 N6 (.tail .head) (.tail .head) .head .app hne (Nat.ne_of_lt he2) (Nat.ne_of_lt he3) hq1 hq2 hq3 hE6 (hs.mono hZ6 (Nat.le_refl _)) hvd lo ?hz (hMA.mono hZ6) hl6 ?hal ?hle hbo' ?_; (case B => k_asm); (case F => k_asm); (case X => k_asm); (case T => k_asm); (case hk => first | exact rfl | assumption); (case hd => ktr_room); (case hd2 => ktr_room); (case hu => ktr_units); (case hu2 => ktr_units); (case hz => decide); (case hal => lia); (case hle => lia))
    intro t7 Z7 ow7 om7 vo7 h7 tk7 hZ7 hE7 hr1 hr2 hr3 hs7 hv7 F7 N7
    k_extra "steps"
    rename_i F8 N8 _ _ _ _ _ kF kN _ _
    have hT := fun q hq => Nat.ne_of_lt (Heap.lt_size (N8 q hq).1)
    refine off3 hT fun hT1 hT2 hT3 hT4 => ?_
    have hT5 := off_appL hT4
    have hT6 := off_appR hT4
    have kN2 := nsub (news' := (dW, ow7) :: (mD, om7) :: (E ++ ((_, tupOf #[.ref vD, .int (cameA R (boundA strict R as) : Nat) t7]) :: (vD, vo7) :: Z7))) kN (by k_extra "all")
    exact hret _ _ ow7 om7 _ _ (hZ6.trans hZ7).cons.cons (offAll_cons (offAll_cons hE7 hs1) hT5) (off_cons (Ne.symm hT1) (off_cons (Ne.symm (Nat.ne_of_lt he2)) hr1)) (off_cons (Ne.symm hT2) (off_cons (Ne.symm (Nat.ne_of_lt he3)) hr2)) (hs7.mono Ext.refl.cons.cons (Nat.le_refl _))
      ⟨vD, vo7, t7, List.mem_cons_self, List.mem_cons_of_mem _ List.mem_cons_self, hv7.mono Ext.refl.cons.cons, lo⟩ kF kN2
end
end
section
theorem lines_15 : True := by
  k_with "own call ref" => ((fail_if_success fail_if_success with_reducible rename Pt 16 => hg9); (k_here; (with_reducible show wpAny _ _ (call (Value.ref _) [_, _, _]) _ _ _); (fail_if_success (with_reducible show wpAny _ _ (call (Value.ref 360) _) _ _ _)); (fail_if_success (with_reducible show wpAny _ _ (call (Value.ref 241) _) _ _ _)); k_dflt (refine @wpAny_call _ _ _ _ _ _ _ _ ?_; k_extra "enterT")))
  trivial
section
variable {w : World} {p : Program} {loose : List Str} {mean : ExcName → Option Value} {mg mb : Str → Option Value} {dp un : Nat} {gd : Option (List Code)} {cn : Str} {cs : Scope} {a : Addr} {ccd : Value} {cl : List (Str × Addr)} {outer : List Env} {A₀ : Around} {base h₀ : Heap} {L : Addr} {m : Str → Option Value} {s : Shared} {Q E' : Value → Shared → Prop}
theorem txtc_use {ow : Addr} {k : Int} {t tt : Tok} {x : Str} {news : Led}
    (B : Below A₀ base outer h₀) (F : Fr h₀ L s.heap m) (X : (hd.heap_39 w.params).In h₀) (T : Top p loose mean mg mb h₀) (hk : cs.kind = .function) (hd : dp + 3 < recursionLimit) (hu : un + 48 < cLine)
    (N : News h₀ L s.heap news)
    (hret : ∀ x h' tk', Fr h₀ L h' m → News h₀ L h' news → Q (.ref x) { s with heap := h', toks := tk' }) :
    wpAny (model PG w) (ktrTop dp un gd cn cs L a ccd cl outer) (call (.ref 241) [.int k t, .ref ow, .str x tt]) Q E' s := by
  have hp29 : Pt 2 := trivial
  have hpt9 : Pt 16 := trivial
  k_dflt k_extra "cb"
  rename_i x0 d0 _ _ _ l0 l2x _ _ _ _ _ _ _ _ _
  have hd : ∀ q ∈ news, q.1 ≠ d0 := fun q hq => Nat.ne_of_lt (l0 q hq)
  have hx : ∀ q ∈ news, q.1 ≠ x0 := fun q hq => Nat.ne_of_lt (Nat.lt_trans (l0 q hq) l2x)
  k_extra "steps"
  rename_i kF kN _ _
  exact hret _ _ _ kF (nsub kN (by k_extra "all"))
theorem errc_use {ow ms : Addr} {k : Int} {t : Tok} {news : Led}
    (B : Below A₀ base outer h₀) (F : Fr h₀ L s.heap m) (X : (hd.heap_39 w.params).In h₀) (T : Top p loose mean mg mb h₀) (hk : cs.kind = .function) (hd : dp + 3 < recursionLimit) (hu : un + 48 < cLine)
    (N : News h₀ L s.heap news)
    (hret : ∀ x h' tk', Fr h₀ L h' m → News h₀ L h' news → Q (.ref x) { s with heap := h', toks := tk' }) :
    wpAny (model PG w) (ktrTop dp un gd cn cs L a ccd cl outer) (call (.ref 360) [.int k t, .ref ow, .ref ms]) Q E' s := by
  have hp29 : Pt 2 := trivial
  have hpt9 : Pt 16 := trivial
  k_dflt k_extra "cb"
  rename_i x0 d0 _ _ _ l0 l2x _ _ _ _ _ _ _ _ _
  have hd : ∀ q ∈ news, q.1 ≠ d0 := fun q hq => Nat.ne_of_lt (l0 q hq)
  have hx : ∀ q ∈ news, q.1 ≠ x0 := fun q hq => Nat.ne_of_lt (Nat.lt_trans (l0 q hq) l2x)
  k_extra "steps"
  rename_i kF kN _ _
  exact hret _ _ _ kF (nsub kN (by k_extra "all"))
end
theorem lines_16 : True := by
  k_with "own call ref" => ((fail_if_success fail_if_success with_reducible rename Pt 16 => hg9); (k_here; (with_reducible show wpAny _ _ (call (Value.ref 241) [_, _, _]) _ _ _); k_dflt (refine @txtc_use _ _ _ _ _ _ _ _ _ _ _ _ _ _ _ _ _ _ _ _ _ _ _ _ _ _ _ _ _ (by k_asm) (by k_asm) (by k_asm) (by k_asm) (by first | exact rfl | assumption) (by ktr_room) (by ktr_units) (by k_asm) ?_); intro _ _ _ _ _; (try dsimp only); (try k_sweep)))
  k_with "own call ref" => ((fail_if_success fail_if_success with_reducible rename Pt 16 => hg9); (k_here; (with_reducible show wpAny _ _ (call (Value.ref 360) [_, _, _]) _ _ _); k_dflt (refine @errc_use _ _ _ _ _ _ _ _ _ _ _ _ _ _ _ _ _ _ _ _ _ _ _ _ _ _ _ _ (by k_asm) (by k_asm) (by k_asm) (by k_asm) (by first | exact rfl | assumption) (by ktr_room) (by ktr_units) (by k_asm) ?_); intro _ _ _ _ _; (try dsimp only); (try k_sweep)))
  k_with "own call ref" => ((fail_if_success fail_if_success with_reducible rename Pt 16 => hg9); (k_here; (with_reducible show wpAny _ _ (call (Value.ref 685) [_, _]) _ _ _); k_dflt (refine @wpAny_call _ _ _ _ _ _ _ _ ?_; k_extra "enterT")))
  trivial
section
variable {w : World} {p : Program} {loose : List Str} {mean : ExcName → Option Value} {mg mb : Str → Option Value} {dp un : Nat} {gd : Option (List Code)} {cn : Str} {cs : Scope} {a : Addr} {ccd : Value} {cl : List (Str × Addr)} {outer : List Env} {A₀ : Around} {base h₀ : Heap} {L : Addr} {m : Str → Option Value} {s : Shared} {Q E' : Value → Shared → Prop}
theorem error_use {n : Nat} {W dW mD : Addr} {ow om : Obj} {rd : Bool} {nm msg : Str} {tn tm : Tok} {Z R R1 E news : Led}
    (B : Below A₀ base outer h₀) (F : Fr h₀ L s.heap m) (X : (hd.heap_39 w.params).In h₀) (T : Top p loose mean mg mb h₀) (hk : cs.kind = .function) (hd : dp + 2 * n + 20 < recursionLimit) (hu : un + 100 * n + 300 < cLine)
    (hs : WSt w Z W dW mD ow om rd n) (N : News h₀ L s.heap news) (P : Pick dW ow news R1) (P2 : Pick mD om R1 R) (S : Spl Z R E) (hne : @Ne Nat dW mD) (ho : ∀ p ∈ R, p.1 ≠ dW) (ho2 : ∀ p ∈ R, p.1 ≠ mD) (hE : OffAll E Z) (hn : nm ∈ bNames)
    (hret : ∀ x Z' ow' om' h' tk', Ext Z Z' → OffAll E Z' → (∀ q ∈ Z', q.1 ≠ dW) → (∀ q ∈ Z', q.1 ≠ mD) → WSt w Z' W dW mD ow' om' rd n → Fr h₀ L h' m → News h₀ L h' ((dW, ow') :: (mD, om') :: (E ++ Z')) → Q (.ref x) { s with heap := h', toks := tk' }) :
    wpAny (model PG w) (ktrTop dp un gd cn cs L a ccd cl outer) (call (.ref 769) [.ref W, .str nm tn, .str msg tm]) Q E' s := by
  have hp29 : Pt 2 := trivial
  have hpt9 : Pt 16 := trivial
  have N1 : News h₀ L s.heap ((dW, ow) :: (mD, om) :: (E ++ Z)) := nsub N fun p hp => P.sub _ (by
    rcases List.mem_cons.mp hp with rfl | hp
    · exact List.mem_cons_self
    · exact List.mem_cons_of_mem _ (P2.sub _ (S.eq ▸ hp)))
  rw [S.eq] at ho ho2
  clear N P P2 S
  have hoE := off_appL ho
  have hoZ := off_appR ho
  have ho2E := off_appL ho2
  have ho2Z := off_appR ho2
  have hmD : ∀ p ∈ (mD, om) :: (E ++ Z), p.1 ≠ dW := off_cons (Ne.symm hne) ho
  refine @wpAny_call _ _ _ _ _ _ _ _ ?_
  k_dflt k_extra "enterC"
  k_extra "steps"
  rename_i hZ1 hOE1 hOb1 hOs1 _ _ _ _ _ _ _ _ _ _ _ _ Z2 ow2 om2 _ _ hZ2 hOE2 hOb2 hOs2 hs2 _ _ _ _ _ _ _ _ _ _ _ _ kF kN _ _
  exact hret _ Z2 ow2 om2 _ _ (hZ1.trans hZ2) hOE2 hOb2 hOs2 hs2 kF (nsub kN (by k_extra "all"))
end
end
section
theorem exl (w : World) : ∃ nm q bs sn sub ab col dd k0 k1 k2 k3 k5, (hd.heap_39 w.params).lookup 71 = some (excClassObj nm q 71 70 bs (.ref 39 :: bV) true sn sub ab col dd k0 k1 k2 k3 k5 "ValueError.__new__") :=
  ⟨_, _, _, _, _, _, _, _, _, _, _, _, _, by k_is⟩
theorem exd (w : World) : ∃ c0 ddD cdD slD, (hd.heap_39 w.params).lookup 39 = some ({ cls := c0, dict := ddD, data := .cls cdD, slots := slD } : Obj) ∧ cdD.ns = 38 :=
  ⟨_, _, _, _, by k_is, rfl⟩
theorem exk (w : World) : ktsIn (hd.heap_39 w.params) 71 "BaseException" = true := by kts_isx
theorem ex1 (w : World) : nsOkIn (hd.heap_39 w.params) 70 = true := by
  obtain ⟨c, d, es, k, sl, h1, h2⟩ : ∃ c d es k sl, (hd.heap_39 w.params).lookup 70 = some (⟨c, d, .dict es k, sl⟩ : Obj) ∧ (es.all fun e => match e.key with | .str _ _ => true | _ => false) = true := ⟨_, _, _, _, _, by k_is, by simp⟩
  unfold nsOkIn
  rw [h1]
  exact h2
theorem ex1' (w : World) : nsOkIn (hd.heap_39 w.params) 38 = true := by
  obtain ⟨c, d, es, k, sl, h1, h2⟩ : ∃ c d es k sl, (hd.heap_39 w.params).lookup 38 = some (⟨c, d, .dict es k, sl⟩ : Obj) ∧ (es.all fun e => match e.key with | .str _ _ => true | _ => false) = true := ⟨_, _, _, _, _, by k_is, by simp⟩
  unfold nsOkIn
  rw [h1]
  exact h2
theorem nsv_of {K : Frag} {h : Heap} {N : Addr} {mg : Str → Option Value} {n : Str} {v : Value} (X : K.In h) (G : h.Ns N mg) (e : nsIn K N n = some (some v)) : mg n = some v := by
  obtain ⟨o, es, ep, ho, hd, _, hf⟩ := G
  unfold nsIn at e
  split at e
  · rename_i c d es' n' sl q
    have := X _ _ q
    rw [ho] at this
    cases this
    cases hd
    split at e
    · rename_i en he
      cases e
      rw [← hf]
      unfold nsFind findBy
      rw [← Array.find?_toList, he]
      rfl
    · split at e <;> cases e
  · cases e
structure ExM (mN mD : Str → Option Value) : Prop where
  i : mN "__init__" = some (.ref 68)
  a1 : mN "__setattr__" = none
  a2 : mD "__setattr__" = none
  r1 : mN "reason" = none
  r2 : mD "reason" = none
  t1 : mN "thing" = none
  t2 : mD "thing" = none
theorem exCls {w : World} {h : Heap} (X : (hd.heap_39 w.params).In h) : ∃ mN mD, ExCls h 71 mN mD ∧ ExM mN mD := by
  obtain ⟨nm, q, bs, sn, sub, ab, col, dd, k0, k1, k2, k3, k5, h1⟩ := exl w
  obtain ⟨c0, ddD, cdD, slD, h2, h3⟩ := exd w
  have n1 : h.Ns 70 (h.nsMap 70) := .of_isNs (isNs_of_in X (ex1 w))
  have n2 : h.Ns 38 (h.nsMap 38) := .of_isNs (isNs_of_in X (ex1' w))
  refine ⟨h.nsMap 70, h.nsMap 38, ⟨nm, q, 70, bs, sn, sub, ab, col, dd, k0, k1, k2, k3, k5, 39, c0, ddD, cdD, slD, X _ _ h1, n1, X _ _ h2, h3 ▸ n2⟩, ?_, ?_, ?_, ?_, ?_, ?_, ?_⟩
  · exact nsv_of X n1 (by k_is)
  · exact ns_none_of X n1 (by k_is)
  · exact ns_none_of X n2 (by k_is)
  · exact ns_none_of X n1 (by k_is)
  · exact ns_none_of X n2 (by k_is)
  · exact ns_none_of X n1 (by k_is)
  · exact ns_none_of X n2 (by k_is)
theorem exB1 : typeLookup (.type "ValueError") "reason" = pure none := by rw [typeLookup_type, builtinLookup_eq_fast]; kernel_rfl
theorem exB2 : typeLookup (.type "ValueError") "thing" = pure none := by rw [typeLookup_type, builtinLookup_eq_fast]; kernel_rfl
end
section
theorem lines_17 : True := by
  k_with "own call ref" => ((fail_if_success fail_if_success with_reducible rename Pt 40 => hg9); (k_here; (with_reducible show wpAny _ _ (call (Value.ref 36) [_, _]) _ _ _); k_dflt (refine @wpAny_call _ _ _ _ _ _ _ _ ?_; k_extra "enterT")))
  k_with "own call builtin:ValueError.__init__" => ((fail_if_success fail_if_success with_reducible rename Pt 40 => hg9); (refine Stp.out ?_))
  k_with "own setAttr ref" => ((fail_if_success fail_if_success with_reducible rename Pt 40 => hg9); (refine Stp.out ?_))
  k_with "own setAttr ref str" => ((fail_if_success fail_if_success with_reducible rename Pt 40 => hg9); (refine Stp.out ?_))
  k_with "own setAttr ref ref" => ((fail_if_success fail_if_success with_reducible rename Pt 40 => hg9); (refine Stp.out ?_))
  k_with "own getMethod type:ValueError" => ((fail_if_success fail_if_success with_reducible rename Pt 40 => hg9); (k_here; k_dflt (refine @metV _ _ _ _ _ _ _ _ _ _ (by k_asm) ?_; k_whole)))
  k_with "own getMethod" => ((fail_if_success fail_if_success with_reducible rename Pt 40 => hg9); (k_here; (with_reducible show wpAny _ _ (getMethod (Value.type "ValueError") _ _) _ _ _); k_dflt (refine @metV _ _ _ _ _ _ _ _ _ _ (by k_asm) ?_; k_whole)))
  trivial
section
variable {w : World} {p : Program} {loose : List Str} {mean : ExcName → Option Value} {mg mb : Str → Option Value} {dp un : Nat} {gd : Option (List Code)} {cn : Str} {cs : Scope} {a : Addr} {ccd : Value} {cl : List (Str × Addr)} {outer : List Env} {A₀ : Around} {base h₀ : Heap} {L : Addr} {m : Str → Option Value} {s : Shared} {Q E' : Value → Shared → Prop}
theorem rsd_use {th : Addr} {news : Led}
    (B : Below A₀ base outer h₀) (F : Fr h₀ L s.heap m) (X : (hd.heap_39 w.params).In h₀) (T : Top p loose mean mg mb h₀) (hk : cs.kind = .function) (hd : dp + 10 < recursionLimit) (hu : un + 100 < cLine)
    (N : News h₀ L s.heap news)
    (hret : ∀ e t1 dx vs h' tk', Fr h₀ L h' m → News h₀ L h' ((e, { cls := .ref 71, dict := some dx, data := .fields #[.ref t1, .none, .none, .none, .bool false, .none] }) :: (t1, { cls := .type "tuple", data := .seq (vs : List Value).toArray }) :: news) → (∀ q ∈ news, q.1 ≠ e) → (∀ q ∈ news, q.1 ≠ t1) → Q (.ref e) { s with heap := h', toks := tk' }) :
    wpAny (model PG w) (ktrTop dp un gd cn cs L a ccd cl outer) (call (.ref 71) [.ref th]) Q E' s := by
  have hpt9 : Pt 40 := trivial
  obtain ⟨mN, mD, XC, XM⟩ := exCls (X.keeps F.keep)
  obtain ⟨ofn, hfn, hfc⟩ : ∃ o, (Mine.hd.heap_39 w.params).lookup 68 = some o ∧ o.cls = .type "function" := ⟨_, by k_is, rfl⟩
  have hfn' := F.keep _ _ (X _ _ hfn)
  obtain ⟨hp, g, d, tk, os⟩ := s
  dsimp only at F N hfn' XC
  have F1 : Fr h₀ L (excHeap hp 71 [.ref th]) m := (F.push { cls := .type "tuple", data := .seq [Value.ref th].toArray }).push (excO 71 hp.objs.size)
  have N1 : News h₀ L (excHeap hp 71 [.ref th]) ((_, excO 71 hp.objs.size) :: (hp.objs.size, { cls := .type "tuple", data := .seq [Value.ref th].toArray }) :: news) := News.push (F.push { cls := .type "tuple", data := .seq [Value.ref th].toArray }) (N.push F { cls := .type "tuple", data := .seq [Value.ref th].toArray }) (excO 71 hp.objs.size)
  have hs1 : (hp.push { cls := .type "tuple", data := .seq [Value.ref th].toArray }).objs.size = hp.objs.size + 1 := by rw [Heap.size_push]
  rw [hs1] at N1
  have XC1 : ExCls (excHeap hp 71 [.ref th]) 71 mN mD := XC.keeps fun b o e => Heap.get?_push_of_some _ (Heap.get?_push_of_some _ e)
  have hoe : ∀ q ∈ (hp.objs.size, ({ cls := .type "tuple", data := .seq [Value.ref th].toArray } : Obj)) :: news, q.1 ≠ hp.objs.size + 1 := fun q hq => by
    rcases List.mem_cons.mp hq with rfl | hq
    · exact Nat.ne_of_lt (Nat.lt_succ_self _)
    · exact Nat.ne_of_lt (Nat.lt_succ_of_lt (Heap.lt_size (N q hq).1))
  refine @callX _ _ _ _ _ _ _ _ _ _ _ _ _ _ _ _ XC XM.i hfn' hfc ?_ (by rw [sizeLine_eq]; exact Nat.le_of_ble_eq_true rfl)
  generalize hp.objs.size + 1 = e0 at *
  generalize excHeap hp 71 [Value.ref th] = hp1 at *
  k_dflt (refine @wpAny_call _ _ _ _ _ _ _ _ ?_; k_extra "enterT")
  k_extra "steps"
  refine Stp.in ?_
  rename_i F2 N2 _ X2 _
  obtain ⟨mN2, mD2, XC2, XM2⟩ := exCls (X2.keeps F2.keep)
  refine @initX _ _ _ _ _ _ _ _ _ _ _ _ _ _ _ _ XC2 F2 N2 hoe (by rw [sizeLine_eq]; exact Nat.le_of_ble_eq_true rfl) ?_
  intro t1 h3 F3 N3 o3 hne3
  k_extra "steps"
  refine Stp.in ?_
  obtain ⟨mN3, mD3, XC3, XM3⟩ := exCls (X2.keeps F3.keep)
  refine @set1X _ _ _ _ _ _ _ _ _ _ _ _ _ _ _ _ _ XC3 XM3.a1 XM3.a2 XM3.r1 XM3.r2 exB1 F3 N3 (List.forall_mem_cons.mpr ⟨Ne.symm hne3, hoe⟩) rfl (fun c e => by cases e) rfl ?_
  intro dx od h4 tk4 F4 N4 hN4 o4 hne4
  k_extra "steps"
  refine Stp.in ?_
  rename_i F5 N5 _ X5
  obtain ⟨mN4, mD4, XC4, XM4⟩ := exCls (X5.keeps F5.keep)
  refine @set2X _ _ _ _ _ _ _ _ _ _ _ _ _ _ _ _ _ _ _ _ _ XC4 XM4.a1 XM4.a2 XM4.t1 XM4.t2 exB2 F5 N5 o4 hne4 rfl (fun c e => by cases e) rfl hN4 (Within.cons _ _ Within.nil) (by decide) ?_
  intro od6 h6 tk6 F6 N6
  k_extra "steps"
  rename_i kF kN _ _
  have a1 := kN _ List.mem_cons_self
  have a2 := kN _ (List.mem_cons_of_mem _ (List.mem_cons_of_mem _ List.mem_cons_self))
  have a3 : News h₀ L h6 news := fun q hq => kN _ (List.mem_cons_of_mem _ (List.mem_cons_of_mem _ (List.mem_cons_of_mem _ (List.mem_cons_of_mem _ hq))))
  exact hret e0 t1 dx _ h6 tk6 kF (List.forall_mem_cons.mpr ⟨a1, List.forall_mem_cons.mpr ⟨a2, a3⟩⟩) (fun q hq => hoe q (List.mem_cons_of_mem _ hq)) (fun q hq => o3 q (List.mem_cons_of_mem _ hq))
end
end
section
theorem lines_18 : True := by
  k_with "own exec Raise some none" => ((fail_if_success fail_if_success with_reducible rename Pt 18 => hg9); (refine Stp.out ?_))
  k_with "own call ref" => ((fail_if_success fail_if_success with_reducible rename Pt 18 => hg9); (k_here; (with_reducible show wpAny _ _ (call (Value.ref 71) [_]) _ _ _); refine Stp.out ?_))
  k_with "own call ref" => ((fail_if_success fail_if_success with_reducible rename Pt 18 => hg9); (k_here; (with_reducible show wpAny _ _ (call (Value.ref 769) [_, _, _]) _ _ _); k_dflt ((refine' error_use (by k_asm) (by k_asm) (by k_asm) (by k_asm) (by first | exact rfl | assumption) ?_ ?_ (by k_extra "wst") (by k_asm) (by k_extra "pick") (by k_extra "pick") (by k_extra "spl") (by first | with_reducible assumption | ((try dsimp only); lia)) (by k_all) (by k_all) (by k_extra "inv") (by first | with_reducible assumption | decide +kernel) ?_); (focus ktr_room); (focus ktr_units)); (with_reducible rename WSt _ _ _ _ _ _ _ _ _ => hws9); intro _ _ _ _ _ _ _ _ _ _ _ _ _; clear hws9; (try dsimp only); (k_extra "oe"); (k_extra "nn"); (try k_sweep)))
  k_with "own leaving ref" => ((fail_if_success fail_if_success with_reducible rename Pt 18 => hg9); (refine Stp.out ?_))
  trivial
section
variable {w : World} {p : Program} {loose : List Str} {mean : ExcName → Option Value} {mg mb : Str → Option Value} {dp un : Nat} {gd : Option (List Code)} {cn : Str} {cs : Scope} {a : Addr} {ccd : Value} {cl : List (Str × Addr)} {outer : List Env} {A₀ : Around} {base h₀ : Heap} {L : Addr} {m : Str → Option Value} {s : Shared} {Q E' : Value → Shared → Prop}
theorem fai_use {n : Nat} {W dW mD : Addr} {ow om : Obj} {rd : Bool} {nm msg : Str} {tn tm : Tok} {Z R R1 E news : Led}
    (B : Below A₀ base outer h₀) (F : Fr h₀ L s.heap m) (X : (hd.heap_39 w.params).In h₀) (T : Top p loose mean mg mb h₀) (hk : cs.kind = .function) (hd : dp + 2 * n + 40 < recursionLimit) (hu : un + 100 * n + 500 < cLine)
    (hs : WSt w Z W dW mD ow om rd n) (N : News h₀ L s.heap news) (P : Pick dW ow news R1) (P2 : Pick mD om R1 R) (S : Spl Z R E) (hne : @Ne Nat dW mD) (ho : ∀ p ∈ R, p.1 ≠ dW) (ho2 : ∀ p ∈ R, p.1 ≠ mD) (hE : OffAll E Z) (hn : nm ∈ bNames)
    (hexc : ∀ e t vs g Z' ow' om' h' tk', Ext Z Z' → OffAll E Z' → (∀ q ∈ Z', q.1 ≠ dW) → (∀ q ∈ Z', q.1 ≠ mD) → WSt w Z' W dW mD ow' om' rd n → Fr h₀ L g m → RaisedS base g (envX cn cs L a ccd cl :: outer) e (.ref 71) t vs ((dW, ow') :: (mD, om') :: (E ++ Z')) h' → g.UpToSlots h' → E' (.ref e) { s with heap := h', toks := tk' }) :
    wpAny (model PG w) (ktrTop dp un gd cn cs L a ccd cl outer) (call (.ref 776) [.ref W, .str nm tn, .str msg tm]) Q E' s := by
  have hp29 : Pt 2 := trivial
  have hpt9 : Pt 18 := trivial
  have N1 : News h₀ L s.heap ((dW, ow) :: (mD, om) :: (E ++ Z)) := nsub N fun p hp => P.sub _ (by
    rcases List.mem_cons.mp hp with rfl | hp
    · exact List.mem_cons_self
    · exact List.mem_cons_of_mem _ (P2.sub _ (S.eq ▸ hp)))
  rw [S.eq] at ho ho2
  clear N P P2 S
  have hoE := off_appL ho
  have hoZ := off_appR ho
  have ho2E := off_appL ho2
  have ho2Z := off_appR ho2
  have hmD : ∀ p ∈ (mD, om) :: (E ++ Z), p.1 ≠ dW := off_cons (Ne.symm hne) ho
  refine @wpAny_call _ _ _ _ _ _ _ _ ?_
  k_dflt k_extra "enterC"
  k_extra "steps"
  refine Stp.in ?_
  refine @RaiseX _ _ _ _ _ _ _ _ _ 71 rfl ?_
  k_extra "steps"
  refine Stp.in ?_
  rename_i gX LX _ FGX BX XX TX _ Z2 ow2 om2 _ _ hZ2 hE2 hq1 hq2 hs2 F2 N2
  k_dflt (refine' rsd_use ?B ?F ?X ?T ?hk ?hd ?hu N2 ?_; (case B => k_asm); (case F => k_asm); (case X => k_asm); (case T => k_asm); (case hk => first | exact rfl | assumption); (case hd => ktr_room); (case hu => ktr_units))
  intro e t1 dx vs h3 tk3 F3 N3 o3 o4
  obtain ⟨mNx, mDx, XC, XM⟩ := exCls (XX.keeps F3.keep)
  refine ⟨e, some dx, t1, mNx, mDx, rfl, XC, (N3 _ List.mem_cons_self).1, ?_⟩
  k_extra "steps"
  refine Stp.in ?_
  have o3' := List.forall_mem_cons.mp o3
  refine leaveX BX F3 N3 o3 o4 (fun h4 R4 U4 => ?_)
  exact hexc e t1 vs gX Z2 ow2 om2 h4 tk3 hZ2 hE2 hq1 hq2 hs2 FGX R4 U4
end
end
section
theorem lines_19 : True := by
  k_with "own call ref" => ((fail_if_success fail_if_success with_reducible rename Pt 13 => hg9); (k_here; (with_reducible show wpAny _ _ (call (Value.ref 450) [_]) _ _ _); k_dflt (refine @wpAny_call _ _ _ _ _ _ _ _ ?_; k_extra "enterT")))
  k_with "own call ref" => ((fail_if_success fail_if_success with_reducible rename Pt 13 => hg9); (k_here; (with_reducible show wpAny _ _ (call (Value.ref 457) [_]) _ _ _); k_dflt (refine @wpAny_call _ _ _ _ _ _ _ _ ?_; k_extra "enterT")))
  k_with "own call ref" => ((fail_if_success fail_if_success with_reducible rename Pt 13 => hg9); (k_here; (with_reducible show wpAny _ _ (call (Value.ref 471) [_, _]) _ _ _); k_dflt (refine @wpAny_call _ _ _ _ _ _ _ _ ?_; k_extra "enterT")))
  k_with "own call ref" => ((fail_if_success fail_if_success with_reducible rename Pt 13 => hg9); (k_here; (with_reducible show wpAny _ _ (call (Value.ref 478) [_, _, _, _]) _ _ _); k_dflt (refine @wpAny_call _ _ _ _ _ _ _ _ ?_; k_extra "enterT")))
  trivial
theorem raisedS_sub {base G : Heap} {l : List Env} {e : Addr} {cls : Value} {t : Addr} {vs : List Value} {news news' : Led} {h : Heap} (R : RaisedS base G l e cls t vs news h) (hs : Ext news' news) : RaisedS base G l e cls t vs news' h := by
  obtain ⟨⟨B, h1, h2, h3, h4, h5⟩, h6⟩ := R
  exact ⟨⟨B, h1, h2, fun q hq => h3 q (hs q hq), h4, h5⟩, h6⟩
section
variable {w : World} {p : Program} {loose : List Str} {mean : ExcName → Option Value} {mg mb : Str → Option Value} {dp un : Nat} {gd : Option (List Code)} {cn : Str} {cs : Scope} {a : Addr} {ccd : Value} {cl : List (Str × Addr)} {outer : List Env} {A₀ : Around} {base h₀ : Heap} {L : Addr} {m : Str → Option Value} {s : Shared} {Q E' : Value → Shared → Prop}
theorem bnr_use {n : Nat} {W dW mD pa la : Addr} {ow om : Obj} {rd : Bool} {R : Row} {as : List AV} {na : Nat} {tb : Tok} {Z Rr R1 E news : Led}
    (B : Below A₀ base outer h₀) (F : Fr h₀ L s.heap m) (X : (hd.heap_39 w.params).In h₀) (T : Top p loose mean mg mb h₀) (hk : cs.kind = .function) (hd : dp + 2 * n + 60 < recursionLimit) (hu : un + 100 * n + 1000 < cLine)
    (hs : WSt w Z W dW mD ow om rd n) (N : News h₀ L s.heap news) (P : Pick dW ow news R1) (P2 : Pick mD om R1 Rr) (S : Spl Z Rr E) (hne : @Ne Nat dW mD) (ho : ∀ p ∈ Rr, p.1 ≠ dW) (ho2 : ∀ p ∈ Rr, p.1 ≠ mD) (hE : OffAll E Z)
    (hP : MadeAt Z pa R) (hA : (la, PySem.W.listOf (as.map AV.val).toArray na) ∈ Z) (hal : as.length ≤ 30) (hnf : ¬ fitsA R as)
    (hexc : ∀ e t vs g Z' ow' om' h' tk', Ext Z Z' → OffAll E Z' → (∀ q ∈ Z', q.1 ≠ dW) → (∀ q ∈ Z', q.1 ≠ mD) → WSt w Z' W dW mD ow' om' rd n → Fr h₀ L g m → RaisedS base g (envX cn cs L a ccd cl :: outer) e (.ref 71) t vs ((dW, ow') :: (mD, om') :: (E ++ Z')) h' → g.UpToSlots h' → E' (.ref e) { s with heap := h', toks := tk' }) :
    wpAny (model PG w) (ktrTop dp un gd cn cs L a ccd cl outer) (call (.ref 525) [.ref W, .ref pa, .ref la, .bool true]) Q E' s := by
  have hp29 : Pt 2 := trivial
  have hpt9 : Pt 13 := trivial
  have N1 : News h₀ L s.heap ((dW, ow) :: (mD, om) :: (E ++ Z)) := nsub N fun p hp => P.sub _ (by
    rcases List.mem_cons.mp hp with rfl | hp
    · exact List.mem_cons_self
    · exact List.mem_cons_of_mem _ (P2.sub _ (S.eq ▸ hp)))
  rw [S.eq] at ho ho2
  clear N P P2 S
  have o1E := off_appL ho
  have o1Z := off_appR ho
  have o2E := off_appL ho2
  have o2Z := off_appR ho2
  obtain ⟨va, vb, rv, vc, bv, hp, ha, hb, hr, hc, hbv, hfl, hol, hbl⟩ := hP
  obtain ⟨dx, lr, lo1, lp, nr, no, np, es, n1, p1, p2, ⟨q1, q2, q3, q4, q5, t1, t2, t3, t4, t5, rfl⟩, p4, p5, p6⟩ := hp
  have hva : va.length = R.fr.length := ha.len
  have hvb : vb.length = R.op.length := hb.len
  have hvc : vc.length = R.ba.length := hc.len
  have hml : (as.map AV.val).length = as.length := List.length_map ..
  by_cases hlt : as.length < R.fr.length + R.ba.length
  · cases hre : R.re with
    | none =>
      rw [hre] at hr
      cases hr
      refine @wpAny_call _ _ _ _ _ _ _ _ ?_
      k_dflt k_extra "enterC"
      k_extra "steps"
      all_goals (rename_i hZ9 hb9 hs9 hw9 _ _ _ _ _ _ hE9 _ _ _ _ _ S9 _ U9; exact hexc _ _ _ _ _ _ _ _ _ hZ9 hE9 hb9 hs9 hw9 (by assumption) (raisedS_sub S9 (by (simp only [List.cons_append, List.nil_append]); k_extra "all")) U9)
    | some x =>
      rw [hre] at hr
      obtain ⟨tx, rfl⟩ := hr
      refine @wpAny_call _ _ _ _ _ _ _ _ ?_
      k_dflt k_extra "enterC"
      k_extra "steps"
      all_goals (rename_i hZ9 hb9 hs9 hw9 _ _ _ _ _ _ hE9 _ _ _ _ _ S9 _ U9; exact hexc _ _ _ _ _ _ _ _ _ hZ9 hE9 hb9 hs9 hw9 (by assumption) (raisedS_sub S9 (by (simp only [List.cons_append, List.nil_append]); k_extra "all")) U9)
  · have hre : R.re = none := by
      cases hre : R.re with
      | none => rfl
      | some x => exact absurd ⟨by lia, fun e => by rw [hre] at e; cases e⟩ hnf
    have hgt : R.fr.length + R.op.length + R.ba.length < as.length := by
      refine Nat.lt_of_not_le fun h => hnf ⟨by lia, fun _ => h⟩
    rw [hre] at hr
    cases hr
    refine @wpAny_call _ _ _ _ _ _ _ _ ?_
    k_dflt k_extra "enterC"
    k_extra "steps"
    all_goals (rename_i hZ9 hb9 hs9 hw9 _ _ _ _ _ _ hE9 _ _ _ _ _ S9 _ U9; exact hexc _ _ _ _ _ _ _ _ _ hZ9 hE9 hb9 hs9 hw9 (by assumption) (raisedS_sub S9 (by (simp only [List.cons_append, List.nil_append]); k_extra "all")) U9)
end
end
section
section
variable {w : World} {p : Program} {loose : List Str} {mean : ExcName → Option Value} {mg mb : Str → Option Value} {dp un : Nat} {gd : Option (List Code)} {cn : Str} {cs : Scope} {a : Addr} {ccd : Value} {cl : List (Str × Addr)} {outer : List Env} {A₀ : Around} {base h₀ : Heap} {L : Addr} {m : Str → Option Value} {s : Shared} {Q E' : Value → Shared → Prop}
inductive BoxJ (fg D : Addr) (ws : List Value) (news : Led) (i : Nat) : Led → Prop
  | mk (fvs) (nf) (fds) (c1 : IntsAre fvs fds) (c2 : (∀ d ∈ fds, 0 ≤ d)) (c3 : fds.length ≤ 60 + i) : BoxJ fg D ws news i ((fg, PySem.W.listOf (fvs : List Value).toArray nf) :: (D, PySem.W.listOf ws.toArray 0) :: news)
inductive BoxK (I : Addr) (io : Obj) (fg D : Addr) (ws : List Value) (news : Led) (i : Nat) (n : Nat) : Value → Led → Prop
  | mk (r) (t) (gvs) (ng) (gds) (c1 : n = r.toNat) (c2 : 0 ≤ r) (c3 : IntsAre gvs gds) (c4 : (∀ d ∈ gds, 0 ≤ d)) (c5 : gds.length ≤ 61 + i) : BoxK I io fg D ws news i n (.int r t) ((I, io) :: (fg, PySem.W.listOf (gvs : List Value).toArray ng) :: (D, PySem.W.listOf ws.toArray 0) :: news)
theorem box_use {l : Addr} {vs : List Value} {ns : List Int} {news : Led}
    (B : Below A₀ base outer h₀) (F : Fr h₀ L s.heap m) (X : (hd.heap_39 w.params).In h₀) (T : Top p loose mean mg mb h₀) (hk : cs.kind = .function) (hd : dp + 1 < recursionLimit) (hu : un + 8 < cLine)
    (N : News h₀ L s.heap news) (hl : base.IsList l vs.toArray) (hi : IntsAre vs ns) (hn : ns.length ≤ 63)
    (hret : ∀ box o Z' h' tk', (∀ q ∈ Z', q.1 ≠ box) → BoxOk Z' o 500 → Fr h₀ L h' m → News h₀ L h' ((box, o) :: (Z' ++ news)) → Q (.ref box) { s with heap := h', toks := tk' }) :
    wpAny (model PG w) (ktrTop dp un gd cn cs L a ccd cl outer) (call (.ref 853) [.ref l]) Q E' s := by
  refine @wpAny_call _ _ _ _ _ _ _ _ ?_
  k_dflt k_extra "enterC"
  (with_reducible rename Below _ _ _ _ => B9)
  k_lift B9
  k_extra "steps"
  refine Stp.in ?_
  rename_i fg _ lfg _ D ws _ F1 N1 hI _ _ lD hD
  have hfg : ∀ q ∈ news, q.1 ≠ fg := fun q hq => Nat.ne_of_lt (lfg q hq)
  have hwl : ws.length ≤ 24 := by rw [hI.length]; simp only [List.length_take]; lia
  refine @listT _ _ _ _ _ _ _ _ _ _ _ (ws) (0) _ _ [Str.ofString "cell", Str.ofString "rest"] (BoxJ fg D ws news) rfl ?_ F1 (nsub (news' := (fg, PySem.W.listOf #[] 0) :: (D, PySem.W.listOf ws.toArray 0) :: news) N1 (by k_extra "all")) ?_ ?_ ?_
  · rintro i n ⟨fvs, nf, fds, _⟩
    exact List.mem_cons_of_mem _ List.mem_cons_self
  · exact ⟨[], 0, [], .nil, fun d hd => (nomatch hd), Nat.zero_le _⟩
  · rintro i v u n₁ I io h tk hv ⟨fvs, nf, fds, hfi, hfp, hfl⟩ hI2 F2 N2
    dsimp only [en, envOf] at F2 N2
    refine off2 hI2 fun hI21 hI22 hI23 => ?_
    have hi24 : i < 24 := by have := (List.getElem?_eq_some_iff.mp hv).1; lia
    obtain ⟨c, t, hc, rfl⟩ := ints_get hI hv
    have hstp : StpIf := trivial
    k_extra "steps"
    refine Stp.in ?_
    rename_i F3 N3
    simp only [List.push_toArray] at N3
    have habs : 0 ≤ (if c < 0 then -c else c) := by split <;> lia
    generalize hac : (if c < 0 then -c else c) = ac at *
    have hmod : 0 ≤ Int.fmod ac 10 := Int.fmod_nonneg_of_pos _ (by decide)
    refine whileZ1 (n₀ := ac.toNat) (Str.ofString "rest") [] (BoxK I io fg D ws news i) F3 (by exact N3) rfl ?_ ?_
    · exact ⟨ac, _, _, _, fds ++ [Int.fmod ac 10], rfl, habs, ints_snoc hfi _ _, nonneg_snoc hfp hmod, by simp only [List.length_append, List.length_cons, List.length_nil]; lia⟩
    · rintro n v u2 nw h2 tk3 ⟨r, tr, gvs, ng, gds, rfl, hr0, hgi, hgp, hgl⟩ F4 N4
      have hgvl := hgi.length
      k_extra "steps"
      · rename_i h10 h60 _ _ Fq Nq
        simp only [List.push_toArray] at Nq
        have hdv : Int.fdiv r 10 = r / 10 := Int.fdiv_eq_ediv_of_nonneg r (by decide)
        have hd0 : 0 ≤ Int.fdiv r 10 := by rw [hdv]; lia
        have hlt : (Int.fdiv r 10).toNat < r.toNat := by rw [hdv]; lia
        have hgs : gds.length < 60 := by first | (rw [List.size_toArray] at h60; lia) | lia
        exact WZ1.intro Fq Nq (fun y hy => by simp only [List.contains_cons, List.contains_nil, Bool.or_false, Bool.or_eq_false_iff, beq_eq_false_iff_ne, ne_eq] at hy; simp [hy]) rfl (Int.fdiv r 10).toNat hlt ((I, io) :: (fg, _) :: (D, _) :: news) (by k_extra "all") ⟨Int.fdiv r 10, _, _, _, gds ++ [Int.fmod (Int.fdiv r 10) 10], rfl, hd0, ints_snoc hgi _ _, nonneg_snoc hgp (Int.fmod_nonneg_of_pos _ (by decide)), by simp only [List.length_append, List.length_cons, List.length_nil]; lia⟩
      · exact turnT F4 N4 (fun y hy => by simp only [List.contains_cons, List.contains_nil, Bool.or_false, Bool.or_eq_false_iff, beq_eq_false_iff_ne, ne_eq] at hy; simp [hy]) ((fg, PySem.W.listOf (gvs : List Value).toArray ng) :: (D, PySem.W.listOf ws.toArray 0) :: news) (by k_extra "all") (off_cons hI21 (off_cons hI22 hI23)) ⟨gvs, ng, gds, hgi, hgp, by lia⟩
      · exact turnT F4 N4 (fun y hy => by simp only [List.contains_cons, List.contains_nil, Bool.or_false, Bool.or_eq_false_iff, beq_eq_false_iff_ne, ne_eq] at hy; simp [hy]) ((fg, PySem.W.listOf (gvs : List Value).toArray ng) :: (D, PySem.W.listOf ws.toArray 0) :: news) (by k_extra "all") (off_cons hI21 (off_cons hI22 hI23)) ⟨gvs, ng, gds, hgi, hgp, by lia⟩
  · rintro u n₁ h tk ⟨fvs, nf, fds, hfi, hfp, hfl⟩ F2 N2
    dsimp only [en, envOf] at F2 N2
    have hfvl := hfi.length
    k_extra "steps"
    rename_i l0 _ _ _ ll0 hl0 kF kN _ _
    refine hret l0 _ [(fg, PySem.W.listOf (fvs : List Value).toArray nf)] _ _ (fun q hq => by rw [List.mem_singleton.mp hq]; exact Nat.ne_of_lt ll0.1) ⟨fg, fvs, fds, 0, nf, 0, 0, fds.sum, _, _, _, rfl, List.mem_cons_self, hfi, Int.le_refl _, Int.le_refl _, by decide, sum_nonneg hfp, by lia⟩ kF (nsub kN (by simp only [List.cons_append, List.nil_append]; k_extra "all"))
end
end
section
theorem lines_20 : True := by
  k_with "own subscriptTail Name Constant ref int" => ((fail_if_success fail_if_success with_reducible rename Pt 32 => hg9); (k_here; (with_reducible show wpAny _ _ (subscriptTail _ _ (Value.ref _) (Value.int _ _)) _ _ _); k_dflt k_extra "af"))
  k_with "own call builtin:isinstance" => ((fail_if_success fail_if_success with_reducible rename Pt 32 => hg9); (k_here; (with_reducible show wpAny _ _ (call _ [Value.int _ _, Value.ref 261]) _ _ _); k_dflt (refine @isn_iL _ _ _ _ _ _ _ (by k_in) ?_; k_whole)))
  k_with "own call builtin:isinstance" => ((fail_if_success fail_if_success with_reducible rename Pt 32 => hg9); (k_here; (with_reducible show wpAny _ _ (call _ [Value.none, Value.ref 261]) _ _ _); k_dflt (refine @isn_nL _ _ _ _ _ (by k_in) ?_; k_whole)))
  k_with "own call builtin:isinstance" => ((fail_if_success fail_if_success with_reducible rename Pt 32 => hg9); (k_here; (with_reducible show wpAny _ _ (call _ [Value.ref _, Value.ref 261]) _ _ _); k_dflt (refine @isi_L _ _ _ _ _ _ _ _ (by k_in) (InstAt.of_news (by k_asm) (by k_mem) (by k_mem)) ?_; k_whole)))
  k_with "own getAttr ref" => ((fail_if_success fail_if_success with_reducible rename Pt 32 => hg9); (k_here; k_dflt (refine @get_own _ _ _ _ _ _ _ _ _ _ _ _ _ _ _ _ _ _ _ (by k_asm) (by k_asm) (by k_inst) (by k_is) (by k_is) (by k_is) (by k_is) (by with_reducible assumption) (by k_handed) ?_; k_whole)))
  k_with "own subscriptTail Name Constant ref int" => ((fail_if_success fail_if_success with_reducible rename Pt 32 => hg9); (k_here; (with_reducible show wpAny _ _ (subscriptTail (Expr.Name (Str.ofString "spot") _) _ (Value.ref _) (Value.int _ _)) _ _ _); k_dflt (refine item_tupleT (by exact News.isTup (by k_asm) (by k_mem)) (by decide) (by decide) (by rfl) (by rfl) ?_; k_whole)))
  trivial
section
variable {w : World} {p : Program} {loose : List Str} {mean : ExcName → Option Value} {mg mb : Str → Option Value} {dp un : Nat} {gd : Option (List Code)} {cn : Str} {cs : Scope} {a : Addr} {ccd : Value} {cl : List (Str × Addr)} {outer : List Env} {A₀ : Around} {base h₀ : Heap} {L : Addr} {m : Str → Option Value} {s : Shared} {Q E' : Value → Shared → Prop}
inductive PaiJ (R : Row) (as : List AV) (E Z : Led) : Value → Led → Prop
  | mk (l : Addr) (nl : Nat) (Zi : Led) (c1 : Ext Z Zi) (c2 : OffAll E Zi) (c3 : (l, PySem.W.listOf ((fitA R as).map AV.val).toArray nl) ∈ Zi) : PaiJ R as E Z (.ref l) (E ++ Zi)
inductive PaiK (D6 : Addr) (R : Row) (fa : List AV) (E Z5 : Led) : Led → Prop
  | mk (fs : List Value) (nf : Nat) (Zi : Led) (c1 : Ext Z5 Zi) (c2 : OffAll E Zi) (c3 : (∀ q ∈ Zi, q.1 ≠ D6)) (c4 : fs.length ≤ 6) (c5 : All2 (FP Zi) fs (zipP R.fr fa ++ zipP (R.op.map .nm) ((fa.take (R.fr.length + cameA R fa)).drop R.fr.length) ++ restA R fa)) : PaiK D6 R fa E Z5 ((D6, PySem.W.listOf (fs : List Value).toArray nf) :: (E ++ Zi))
inductive PaiM (D10 : Addr) (av : List Value) (R : Row) (fa : List AV) (E Z7 : Led) (i : Nat) : Value → Led → Prop
  | mk (l : Addr) (ps : List Value) (np : Nat) (Zi : Led) (c1 : Ext ((D10, PySem.W.listOf av.toArray 0) :: Z7) Zi) (c2 : OffAll E Zi) (c3 : (∀ q ∈ Zi, q.1 ≠ l)) (c4 : (∀ q ∈ E, q.1 ≠ l)) (c5 : ps.length ≤ 2 * i) (c6 : All2 (NP Zi) ps (((specA R fa).take i).flatMap spread)) : PaiM D10 av R fa E Z7 i (.ref l) ((l, PySem.W.listOf (ps : List Value).toArray np) :: (E ++ Zi))
inductive PaiN (I : Addr) (io : Obj) (l : Addr) (ps : List Value) (np : Nat) (va : AV) (E Zi : Led) : Value → Led → Prop
  | mk (l2 : Addr) (nl2 : Nat) (Zj : Led) (c1 : Ext Zi Zj) (c2 : OffAll E Zj) (c3 : (∀ q ∈ Zj, q.1 ≠ l)) (c4 : (∀ q ∈ Zj, q.1 ≠ I)) (c5 : (l2, PySem.W.listOf (va.its.map AV.val).toArray nl2) ∈ Zj) : PaiN I io l ps np va E Zi (.ref l2) ((I, io) :: (l, PySem.W.listOf ps.toArray np) :: (E ++ Zj))
theorem pairs_use {ra la : Addr} {na : Nat} {R : Row} {as : List AV} {Z E news : Led}
    (B : Below A₀ base outer h₀) (F : Fr h₀ L s.heap m) (X : (hd.heap_39 w.params).In h₀) (T : Top p loose mean mg mb h₀) (hk : cs.kind = .function) (hd : dp + 1 < recursionLimit) (hu : un + 8 < cLine)
    (N : News h₀ L s.heap news) (S : Spl Z news E) (hE : OffAll E Z) (hR : RowAt Z ra R) (hA : (la, PySem.W.listOf (as.map AV.val).toArray na) ∈ Z) (hOk : ∀ v ∈ as, AVOk Z v) (hal : as.length ≤ 20)
    (hret : ∀ T lp vs n tc Z' h' tk', Ext Z Z' → OffAll E Z' → (T, tupOf #[.ref lp, .int (cameA R (fitA R as) : Nat) tc]) ∈ Z' → (lp, PySem.W.listOf (vs : List Value).toArray n) ∈ Z' → All2 (NP Z') vs (assigns R (fitA R as)) → Fr h₀ L h' m → News h₀ L h' (E ++ Z') → Q (.ref T) { s with heap := h', toks := tk' }) :
    wpAny (model PG w) (ktrTop dp un gd cn cs L a ccd cl outer) (call (.ref 900) [.ref ra, .ref la]) Q E' s := by
  have hpt9 : Pt 32 := trivial
  have N1 : News h₀ L s.heap (E ++ Z) := S.eq ▸ N
  clear N S
  obtain ⟨lf, lo, lb, fv, ov, bv, nf, no, nb, rv, blv, h1, h2, h3, h4, h5, h6, h7, h8, h9, h10, h11, h12, hxl⟩ := hR
  have hfl : fv.length ≤ 2 := by rw [h5.len]; exact h10
  have hol : ov.length ≤ 2 := by rw [h6.len]; exact h11
  have hbl : bv.length ≤ 2 := by rw [h8.len]; exact h12
  have hml : (as.map AV.val).length = as.length := List.length_map ..
  have hstp : StpIf := trivial
  refine @wpAny_call _ _ _ _ _ _ _ _ ?_
  k_dflt k_extra "enterC"
  k_extra "steps"
  refine Stp.in ?_
  rename_i l0 _ ll0 D1 _ lD1 hD1 D2 _ lD2 hD2 _ F1 N1'
  have hl0 : ∀ q ∈ E ++ Z, q.1 ≠ l0 := fun q hq => Nat.ne_of_lt (ll0 q hq)
  have epad : List.map AV.val as ++ List.replicate ((fv.length : Int) + (bv.length : Int) - ((List.map AV.val as).length : Int)).toNat Value.none = (as ++ List.replicate (R.fr.length + R.ba.length - as.length) noneA).map AV.val := by
    have e1 : ((fv.length : Int) + (bv.length : Int) - ((List.map AV.val as).length : Int)).toNat = R.fr.length + R.ba.length - as.length := by
      simp only [List.length_map]
      rw [h5.len, h8.len]
      exact ti_add_sub _ _ _
    rw [e1, List.map_append, List.map_replicate]
    rfl
  rw [epad] at N1'
  have hpl : (as ++ List.replicate (R.fr.length + R.ba.length - as.length) noneA).length ≤ 24 := by simp only [List.length_append, List.length_replicate]; exact pad24 hal h10 h12
  refine @cutX1 _ _ _ _ _ _ _ _ _ (Str.ofString "args") (PaiJ R as E Z) F1 ?_ ?_
  · generalize hpd : as ++ List.replicate (R.fr.length + R.ba.length - as.length) noneA = pd at *
    have hpm : (pd.map AV.val).length = pd.length := List.length_map ..
    have hE2 : OffAll E ((D2, PySem.W.listOf (pd.map AV.val).toArray 0) :: Z) := offAll_cons hE (off_appL hD2)
    cases hre : R.re with
    | none =>
      rw [hre] at h7
      cases h7
      k_extra "steps"
      rename_i D4 _ lD4 hD4 _ Fq Nq
      have ecut : List.take ((fv.length : Int) + (ov.length : Int) + (bv.length : Int)).toNat (pd.map AV.val) = (fitA R as).map AV.val := by
        rw [fitA_none as hre, hpd, List.map_take]
        congr 1
        rw [h5.len, h6.len, h8.len]
        rfl
      rw [ecut] at Nq
      exact CutF1.intro Fq Nq (fun y hy => by simp only [List.contains_cons, List.contains_nil, Bool.or_false, beq_eq_false_iff_ne, ne_eq] at hy; simp [hy]) rfl (E ++ ((D4, PySem.W.listOf ((fitA R as).map AV.val).toArray 0) :: (D2, PySem.W.listOf (pd.map AV.val).toArray 0) :: Z)) (by k_extra "all")
        ⟨D4, 0, _, Ext.refl.cons.cons, offAll_cons hE2 (off_appL hD4), List.mem_cons_self⟩
    | some x =>
      rw [hre] at h7
      obtain ⟨tx, rfl⟩ := h7
      k_extra "steps"
      refine CutF1.intro F1 N1' (fun y _ => rfl) rfl (E ++ ((D2, PySem.W.listOf (pd.map AV.val).toArray 0) :: Z)) (by k_extra "all") ⟨D2, 0, _, Ext.refl.cons, hE2, ?_⟩
      rw [fitA_some as hre, hpd]
      exact List.mem_cons_self
  · rintro v3 h3' tk3 n3 F3 N3 ⟨l3, n3', Z3, hZ3, hO3, hl3⟩
    clear hpl epad N1' hl0 hD1 hD2
    have hfa := fitA_len R as
    have hfb := fitA_le R as
    have hfO := fitA_ok (R := R) hOk
    generalize hfe : fitA R as = fa at *
    have hfm : (fa.map AV.val).length = fa.length := List.length_map ..
    have hf24 : fa.length ≤ 24 := max24 hfb hal h10 h12
    clear hfb
    have hel := h5.len
    have heo := h6.len
    have heb := h8.len
    have hstp : StpIf := trivial
    k_extra "steps"
    refine Stp.in ?_
    rename_i c3 tc _ _ hc1 hc2 hc3 _ _ _ D3 n3c _ us1 Z4 hZ4 hO4 hA1 hot3 hul1 Dx _ lDx hDx _ _ D5 n5c _ us2 Z5 hZ5 hA2 hot5 hul2 ho5x ho53 hO5 D6 _ lD6 hD6 _ Fq Nq
    have hcame : c3 = ((cameA R fa : Nat) : Int) := by
      rw [heo] at hc1 hc3
      rw [hel, heb, hfm] at hc2 hc3
      exact min_lift _ _ (sub_lift hfa) hc1 hc2 hc3
    have hcl : cameA R fa ≤ R.op.length := Nat.min_le_left _ _
    have hcl2 : R.fr.length + cameA R fa + R.ba.length ≤ fa.length := came_fit _ hfa
    have hZ35 : Ext Z Z5 := (hZ3.trans hZ4).trans hZ5
    have hl5 : (l3, PySem.W.listOf (fa.map AV.val).toArray n3') ∈ Z5 := hZ5 _ (hZ4 _ hl3)
    have hfO5 := AVOk.all_mono hZ35 hfO
    have hu1 : us1.length ≤ 2 := min2 hul1 hfl
    have hu2 : us2.length ≤ 2 := min2 hul2 hol
    clear hul1 hul2 hc1 hc2 hc3
    subst hcame
    have ea : ((fv.length : Int)).toNat = R.fr.length := hel
    have eb : ((fv.length : Int) + ((cameA R fa : Nat) : Int)).toNat = R.fr.length + cameA R fa := by rw [hel]; rfl
    rw [ea, eb, ← List.map_take, ← List.map_drop] at hA2
    have hFP := (zip_FP (h5.mono (RPl.mono hZ35)) hfO5 (hA1.mono (PairV.mono hZ5))).app (zip_FP (StrV.rpl (Z := Z5) h6) (fun v hv => hfO5 v (List.mem_of_mem_take (List.mem_of_mem_drop hv))) hA2)
    have hEf := off_appL hD6
    replace Nq := nsub (news' := (D6, PySem.W.listOf (us1 ++ us2).toArray 0) :: (E ++ Z5)) Nq (by k_extra "all")
    clear lD1 lD2 lDx lD6
    refine @cutX _ _ _ _ _ _ _ _ _ (PaiK D6 R fa E Z5) Fq ?_ ?_
    · cases hre : R.re with
      | none =>
        rw [hre] at h7
        cases h7
        k_extra "steps"
        refine CutF.intro Fq Nq ((D6, _) :: (E ++ Z5)) (by k_extra "all") ⟨_, _, Z5, Ext.refl, hO5, off_appR hD6, by simp only [List.length_append]; lia, ?_⟩
        simp only [restA, hre, optNe, List.map_nil, List.append_nil]
        exact hFP
      | some x =>
        rw [hre] at h7
        obtain ⟨tx, rfl⟩ := h7
        have hxl' := hxl x hre
        k_extra "steps"
        · rename_i hx0 D7 _ lD7 hD7 D8 _ lD8 hD8 _ Fr' Nr
          have ec : ((fv.length : Int) + ((cameA R fa : Nat) : Int)).toNat = R.fr.length + cameA R fa := by rw [hel]; rfl
          have ed : (((List.map AV.val fa).length : Int) - (bv.length : Int)).toNat = fa.length - R.ba.length := by rw [Int.toNat_sub, hfm, heb]
          rw [ec, ed, ← List.map_take, ← List.map_drop] at Nr
          simp only [List.push_toArray] at Nr
          refine CutF.intro Fr' Nr ((D6, _) :: (E ++ ((D8, tupOf #[Value.str x tx, Value.ref D7]) :: (D7, PySem.W.listOf (((fa.take (fa.length - R.ba.length)).drop (R.fr.length + cameA R fa)).map AV.val).toArray 0) :: Z5))) (by k_extra "all")
            ⟨_, _, _, Ext.refl.cons.cons, offAll_cons (offAll_cons hO5 (off_appL hD7)) (off_appL hD8), off_cons (by dsimp only; lia) (off_cons (by dsimp only; lia) (off_appR hD6)), by simp only [List.length_append, List.length_cons, List.length_nil]; lia, ?_⟩
          simp only [restA, hre, optNe, if_neg (str_nonempty hx0), List.map_cons, List.map_nil]
          refine (hFP.mono (FP.mono (Ext.refl.cons.cons))).snoc ⟨D8, _, _, rfl, List.mem_cons_self, ⟨tx, rfl⟩, by simp only [List.length_drop, List.length_take]; exact rest30 _ _ (Nat.le_trans hf24 (by decide)), fun v hv => (hfO5 v (List.mem_of_mem_take (List.mem_of_mem_drop hv))).mono (Ext.refl.cons.cons), D7, 0, rfl, List.mem_cons_of_mem _ List.mem_cons_self⟩
        · rename_i hx0
          refine CutF.intro Fq Nq ((D6, _) :: (E ++ Z5)) (by k_extra "all") ⟨_, _, Z5, Ext.refl, hO5, off_appR hD6, by simp only [List.length_append]; lia, ?_⟩
          simp only [restA, hre, optNe, if_pos (str_empty hx0), List.map_nil, List.append_nil]
          exact hFP
    · rintro h6' tk6 n6 F6 N6 ⟨fs, nf, Z6, hZ6, hO6, hof6, hfl6, hFP6⟩
      k_extra "steps"
      refine Stp.in ?_
      rename_i Dx2 _ lDx2 hDx2 _ _ D9 n9c _ us3 Z7 hZ7 hA3 hot9 hul3 ho7x ho76 hO7 D10 _ lD10 hD10 _ pa _ lpa hpa _ F7 N7
      have ed : (((List.map AV.val fa).length : Int) - (bv.length : Int)).toNat = fa.length - R.ba.length := by rw [Int.toNat_sub, hfm, heb]
      rw [ed, ← List.map_drop] at hA3
      have hZ37 : Ext Z Z7 := (hZ35.trans hZ6).trans hZ7
      have hfO7 := AVOk.all_mono hZ37 hfO
      have hFP7 := (hFP6.mono (FP.mono hZ7)).app (zip_FP (h8.mono (RPl.mono hZ37)) (fun v hv => hfO7 v (List.mem_of_mem_drop hv)) hA3)
      have hu3 : us3.length ≤ 2 := min2 hul3 hbl
      clear hul3
      have hol8 : (fs ++ us3).length ≤ 8 := by simp only [List.length_append]; lia
      change All2 (FP Z7) (fs ++ us3) (specA R fa) at hFP7
      generalize hav : fs ++ us3 = av at *
      have hEp := off_appL hpa
      refine @listT1 _ _ _ _ _ _ _ _ _ _ _ (av) (0) _ _ (.ref pa) (Str.ofString "pairs_all") [Str.ofString "spot", Str.ofString "value", Str.ofString "items"] (PaiM D10 av R fa E Z7) rfl ?_ F7 (nsub (news' := (pa, PySem.W.listOf #[] 0) :: (E ++ ((D10, PySem.W.listOf av.toArray 0) :: Z7))) N7 (by k_extra "all")) rfl ?_ ?_ ?_
      · rintro i v n ⟨l, ps, np, Zi, hZi, _⟩
        exact List.mem_cons_of_mem _ (List.mem_append_right _ (hZi _ List.mem_cons_self))
      · exact ⟨pa, [], 0, _, Ext.refl, offAll_cons hO7 (off_appL hD10), off_cons (by dsimp only; lia) (off_appR hpa), hEp, Nat.le_refl _, .nil⟩
      · rintro i v v1 u n₁ I io h tk hv ⟨l, ps, np, Zi, hZi, hEi, hofi, hEl, hpsl, hps⟩ hI F8 N8
        dsimp only [en, envOf] at F8 N8
        refine off1 hI fun hI1 hI2 => ?_
        have hZi' : Ext Z7 Zi := fun q hq => hZi q (List.mem_cons_of_mem _ hq)
        obtain ⟨⟨pl, dv⟩, hpl, T0, sv, wv, rfl, hT0, hsv, hdv⟩ := hFP7.get hv
        have hT1 := hZi' _ hT0
        have hdv' := hdv.mono hZi'
        have hi8 : i < 8 := by have := (List.getElem?_eq_some_iff.mp hv).1; lia
        cases pl with
        | nm x =>
          obtain ⟨tx, rfl⟩ := hsv
          k_extra "steps"
          rename_i _ _ _ _ _ D0 _ lD0 hD0 _ Fq Nq
          simp only [List.push_toArray] at Nq
          exact turnT1 Fq Nq (fun y hy => by simp only [List.contains_cons, List.contains_nil, Bool.or_false, Bool.or_eq_false_iff, beq_eq_false_iff_ne, ne_eq] at hy; simp [hy]) rfl ((l, PySem.W.listOf (ps ++ [Value.ref D0]).toArray (np + 1)) :: (E ++ ((D0, tupOf #[Value.str x tx, wv]) :: Zi))) (by k_extra "all") (off_cons hI1 (off_join (off_appL hI2) (off_cons (by dsimp only; lia) (off_appR hI2))))
            ⟨l, ps ++ [Value.ref D0], np + 1, _, hZi.cons, offAll_cons hEi (off_appL hD0), off_cons (by dsimp only; lia) hofi, hEl, by simp only [List.length_append, List.length_cons, List.length_nil]; lia, hps.nm hpl D0 tx wv hdv'⟩
        | gp x y =>
          obtain ⟨ga, gt, gu, rfl, hga⟩ := hsv
          have hga' := hZi' _ hga
          cases dv with
          | many vs => exact (specA_gp (List.mem_of_getElem? hpl)).elim
          | one va =>
            obtain ⟨rfl, hva⟩ := hdv'
            have hstp : StpE := trivial
            k_extra "steps"
            refine Stp.in ?_
            rename_i _ _ _ F9 N9
            refine @cutE _ _ _ _ _ _ _ _ _ (PaiN I io l ps np va E Zi) F9 ?_ ?_
            · cases hva with
              | none =>
                dsimp only [AV.val, AV.its] at F9 hT1 ⊢
                k_extra "steps"
                rename_i l0 _ Fq Nq ll hl
                exact CutP.intro Fq Nq ((I, io) :: (l, PySem.W.listOf ps.toArray np) :: (E ++ ((l0, PySem.W.listOf [Value.none].toArray 0) :: Zi))) (by k_extra "all") ⟨l0, 0, _, Ext.refl.cons, offAll_cons hEi (off_appL hl), off_cons (by dsimp only; lia) hofi, off_cons (by dsimp only; lia) (off_appR hI2), List.mem_cons_self⟩
              | int =>
                rename_i ki ti
                dsimp only [AV.val, AV.its] at F9 hT1 ⊢
                k_extra "steps"
                rename_i l0 _ Fq Nq ll hl
                exact CutP.intro Fq Nq ((I, io) :: (l, PySem.W.listOf ps.toArray np) :: (E ++ ((l0, PySem.W.listOf [Value.int ki ti].toArray 0) :: Zi))) (by k_extra "all") ⟨l0, 0, _, Ext.refl.cons, offAll_cons hEi (off_appL hl), off_cons (by dsimp only; lia) hofi, off_cons (by dsimp only; lia) (off_appR hI2), List.mem_cons_self⟩
              | ar hlen hLA hits =>
                obtain ⟨dx, es, n, li, nl, kn, tn, q1, q2, q3, q4, q5⟩ := hLA
                dsimp only [AV.val, AV.its] at F9 hT1 ⊢
                rename_i itl
                have hil : (List.map AV.val itl).length = itl.length := List.length_map ..
                k_extra "steps"
                rename_i D0 c0 _ Fq Nq ll hl
                exact CutP.intro Fq Nq ((I, io) :: (l, PySem.W.listOf ps.toArray np) :: (E ++ ((D0, PySem.W.listOf (List.map AV.val itl).toArray c0) :: Zi))) (by k_extra "all") ⟨D0, c0, _, Ext.refl.cons, offAll_cons hEi (off_appL hl), off_cons (by dsimp only; lia) hofi, off_cons (by dsimp only; lia) (off_appR hI2), List.mem_cons_self⟩
            · rintro v10 h10' tk10 n10 F10 N10 ⟨l10, nl10, Z10, hZ10, hO10, hof10, hoI10, hl10⟩
              have hil := hva.its_len
              have him : (va.its.map AV.val).length = va.its.length := List.length_map ..
              k_extra "steps"
              rename_i v0 hv0 T1 _ lT1 hT1' v1 hv1 T2 _ lT2 hT2' l12 _ l12' hl12 D0 _ lD0 hD0 _ Fq Nq
              have e0 : v0 = (g0 va).val := by rw [hv0]; exact g0_val va
              have e1 : v1 = (g1 va).val := by rw [hv1]; exact g1_val va
              clear hv0 hv1
              subst e0 e1
              exact turnT1 Fq Nq (fun y hy => by simp only [List.contains_cons, List.contains_nil, Bool.or_false, Bool.or_eq_false_iff, beq_eq_false_iff_ne, ne_eq] at hy; simp [hy]) rfl ((D0, PySem.W.listOf (ps ++ [Value.ref T1, Value.ref T2]).toArray 0) :: (E ++ ((T2, tupOf #[Value.str y gu, (g1 va).val]) :: (T1, tupOf #[Value.str x gt, (g0 va).val]) :: Z10))) (by k_extra "all") (off_cons (Nat.ne_of_gt lD0.2.2.2.2.2.1) (off_join (off_appL hI2) (off_cons (Nat.ne_of_gt lT2.2.2.2.1) (off_cons (Nat.ne_of_gt lT1.2.2.1) hoI10))))
                ⟨D0, ps ++ [Value.ref T1, Value.ref T2], 0, _, ((hZi.trans hZ10).cons).cons, offAll_cons (offAll_cons hO10 (off_appL hT1')) (off_appL hT2'), off_cons (Nat.ne_of_lt lD0.2.1) (off_cons (Nat.ne_of_lt lD0.2.2.1) (off_appR hD0)), off_appL hD0, by simp only [List.length_append, List.length_cons, List.length_nil]; lia, (hps.mono (NP.mono hZ10)).gp hpl T1 T2 gt gu (hva.mono hZ10)⟩
      · rintro v1 u n₁ h tk ⟨l, ps, np, Zi, hZi, hEi, hofi, hEl, hpsl, hps⟩ F8 N8
        dsimp only [en, envOf] at F8 N8
        rw [hFP7.len, List.take_length] at hps
        k_extra "steps"
        rename_i D0 _ _ _ lD0 hD0 kF kN _ _
        subst hfe
        exact hret D0 l ps np tc ((D0, tupOf #[Value.ref l, Value.int (cameA R (fitA R as) : Nat) tc]) :: (l, PySem.W.listOf ps.toArray np) :: Zi) _ _ (((hZ37.trans (fun q hq => hZi q (List.mem_cons_of_mem _ hq))).cons).cons) (offAll_cons (offAll_cons hEi hEl) (off_appL hD0)) List.mem_cons_self (List.mem_cons_of_mem _ List.mem_cons_self) (hps.fin (Ext.refl.cons.cons)) kF (nsub kN (by k_extra "all"))
end
end
section
theorem lines_21 : True := by
  k_with "own call ref" => ((fail_if_success fail_if_success with_reducible rename Pt 41 => hg9); (k_here; (with_reducible show wpAny _ _ (call (Value.ref 416) [_]) _ _ _); k_dflt (refine @wpAny_call _ _ _ _ _ _ _ _ ?_; k_extra "enterT")))
  k_with "own call builtin:isinstance" => ((fail_if_success fail_if_success with_reducible rename Pt 41 => hg9); (k_here; (with_reducible show wpAny _ _ (call _ [Value.ref _, Value.type "bool"]) _ _ _); k_dflt (refine @isi_lb _ _ _ _ _ _ _ _ (by k_in) (InstAt.of_news (by k_asm) (by k_mem) (by k_mem)) ?_; k_whole)))
  k_with "own call builtin:isinstance" => ((fail_if_success fail_if_success with_reducible rename Pt 41 => hg9); (k_here; (with_reducible show wpAny _ _ (call _ [Value.ref _, Value.type "int"]) _ _ _); k_dflt (refine @isi_li _ _ _ _ _ _ _ _ (by k_in) (InstAt.of_news (by k_asm) (by k_mem) (by k_mem)) ?_; k_whole)))
  k_with "own call builtin:isinstance" => ((fail_if_success fail_if_success with_reducible rename Pt 41 => hg9); (k_here; (with_reducible show wpAny _ _ (call _ [Value.ref _, Value.type "str"]) _ _ _); k_dflt (refine @isi_ls _ _ _ _ _ _ _ _ (by k_in) (InstAt.of_news (by k_asm) (by k_mem) (by k_mem)) ?_; k_whole)))
  k_with "own getAttr ref" => ((fail_if_success fail_if_success with_reducible rename Pt 41 => hg9); (k_here; k_dflt (refine @get_own _ _ _ _ _ _ _ _ _ _ _ _ _ _ _ _ _ _ _ (by k_asm) (by k_asm) (by k_inst) (by k_is) (by k_is) (by k_is) (by k_is) (by with_reducible assumption) (by k_handed) ?_; k_whole)))
  trivial
section
variable {w : World} {p : Program} {loose : List Str} {mean : ExcName → Option Value} {mg mb : Str → Option Value} {dp un : Nat} {gd : Option (List Code)} {cn : Str} {cs : Scope} {a : Addr} {ccd : Value} {cl : List (Str × Addr)} {outer : List Env} {A₀ : Around} {base h₀ : Heap} {L : Addr} {m : Str → Option Value} {s : Shared} {Q E' : Value → Shared → Prop}
theorem same_use {v : AV} {x : Value} {Z news : Led}
    (B : Below A₀ base outer h₀) (F : Fr h₀ L s.heap m) (X : (hd.heap_39 w.params).In h₀) (T : Top p loose mean mg mb h₀) (hk : cs.kind = .function) (hd : dp + 2 < recursionLimit) (hu : un + 16 < cLine)
    (N : News h₀ L s.heap news) (hZ : Ext Z news) (hv : AVOk Z v) (hx : x = v.val)
    (hret : ∀ h' tk', Fr h₀ L h' m → News h₀ L h' news → Q (.bool true) { s with heap := h', toks := tk' }) :
    wpAny (model PG w) (ktrTop dp un gd cn cs L a ccd cl outer) (call (.ref 423) [x, x]) Q E' s := by
  have hpt9 : Pt 41 := trivial
  subst hx
  refine @wpAny_call _ _ _ _ _ _ _ _ ?_
  cases hv with
  | none =>
    dsimp only [AV.val]
    k_dflt k_extra "enterC"
    k_extra "steps"
    rename_i kF kN _ _
    exact hret _ _ kF kN
  | int =>
    rename_i ki ti
    dsimp only [AV.val]
    k_dflt k_extra "enterC"
    k_extra "steps"
    rename_i kF kN _ _
    have e : (ki == ki) = true := by simp
    rw [e]
    exact hret _ _ kF kN
  | ar hlen hLA hits =>
    obtain ⟨dx, es, n, li, nl, kn, tn, q1, q2, q3, q4, q5⟩ := hLA
    dsimp only [AV.val]
    k_dflt k_extra "enterC"
    k_extra "steps"
    rename_i kF kN _ _
    have e : (kn == kn) = true := by simp
    rw [e]
    exact hret _ _ kF kN
end
end
section
theorem lines_22 : True := by
  k_with "own call builtin:isinstance" => ((fail_if_success fail_if_success with_reducible rename Pt 20 => hg9); (k_here; (with_reducible show wpAny _ _ (call _ [Value.ref _, Value.type "list"]) _ _ _); k_dflt (first | (refine @isi_ll _ _ _ _ _ _ _ _ (by k_in) (InstAt.of_news (by k_asm) (by k_mem) (by k_mem)) ?_; k_whole) | (refine @IsiPair.isList_list _ _ _ _ _ _ _ _ _ (News.isList (by k_asm) (by k_mem)) (fun _ _ e => e) ?_; k_whole))))
  k_with "own call builtin:isinstance" => ((fail_if_success fail_if_success with_reducible rename Pt 20 => hg9); (k_here; (with_reducible show wpAny _ _ (call _ [Value.ref _, Value.ref 261]) _ _ _); k_dflt (refine @isi_L _ _ _ _ _ _ _ _ (by k_in) (InstAt.of_news (by k_asm) (by k_mem) (by k_mem)) ?_; k_whole)))
  k_with "own getAttr ref" => ((fail_if_success fail_if_success with_reducible rename Pt 20 => hg9); (k_here; k_dflt (refine @get_own _ _ _ _ _ _ _ _ _ _ _ _ _ _ _ _ _ _ _ (by k_asm) (by k_asm) (by k_inst) (by k_is) (by k_is) (by k_is) (by k_is) (by with_reducible assumption) (by k_handed) ?_; k_whole)))
  k_with "own subscriptTail Name Name ref int" => ((fail_if_success fail_if_success with_reducible rename Pt 20 => hg9); (k_here; (with_reducible show wpAny _ _ (subscriptTail _ _ (Value.ref _) (Value.int _ _)) _ _ _); k_dflt k_extra "af"))
  trivial
section
variable {w : World} {p : Program} {loose : List Str} {mean : ExcName → Option Value} {mg mb : Str → Option Value} {dp un : Nat} {gd : Option (List Code)} {cn : Str} {cs : Scope} {a : Addr} {ccd : Value} {cl : List (Str × Addr)} {outer : List Env} {A₀ : Around} {base h₀ : Heap} {L : Addr} {m : Str → Option Value} {s : Shared} {Q E' : Value → Shared → Prop}
theorem same_use2 {v : AV} {x y : Value} {Z news : Led}
    (B : Below A₀ base outer h₀) (F : Fr h₀ L s.heap m) (X : (hd.heap_39 w.params).In h₀) (T : Top p loose mean mg mb h₀) (hk : cs.kind = .function) (hd : dp + 2 < recursionLimit) (hu : un + 16 < cLine)
    (N : News h₀ L s.heap news) (hZ : Ext Z news) (hv : AVOk Z v) (hx : x = v.val) (hy : y = v.val)
    (hret : ∀ h' tk', Fr h₀ L h' m → News h₀ L h' news → Q (.bool true) { s with heap := h', toks := tk' }) :
    wpAny (model PG w) (ktrTop dp un gd cn cs L a ccd cl outer) (call (.ref 423) [x, y]) Q E' s := by
  subst hy
  subst hx
  exact @same_use _ _ _ _ _ _ _ _ _ _ _ _ _ _ _ _ _ _ _ _ _ _ _ _ _ _ _ B F X T hk hd hu N hZ hv rfl hret
theorem lines_23 : True := by
  k_with "own call ref" => ((fail_if_success fail_if_success with_reducible rename Pt 20 => hg9); (k_here; (with_reducible show wpAny _ _ (call (Value.ref 423) [_, _]) _ _ _); k_dflt ((refine' same_use2 (by k_asm) (by k_asm) (by k_asm) (by k_asm) (by first | exact rfl | assumption) (by ktr_room) (by ktr_units) (by k_asm) ?_ (by with_reducible assumption) (by first | exact rfl | exact Eq.trans (by with_reducible assumption) (by with_reducible assumption)) (by first | exact rfl | exact Eq.trans (by with_reducible assumption) (by with_reducible assumption)) ?_); (focus k_extra "p2")); intro _ _ _ _; (try dsimp only); (try k_sweep)))
  trivial
theorem is_use {d : DV} {x y : Value} {Z news : Led}
    (B : Below A₀ base outer h₀) (F : Fr h₀ L s.heap m) (X : (hd.heap_39 w.params).In h₀) (T : Top p loose mean mg mb h₀) (hk : cs.kind = .function) (hd : dp + 3 < recursionLimit) (hu : un + 200 < cLine)
    (N : News h₀ L s.heap news) (hZ : Ext Z news) (hx : FVAt Z x d) (hy : DVAt Z y d)
    (hret : ∀ h' tk', Fr h₀ L h' m → News h₀ L h' news → Q (.bool true) { s with heap := h', toks := tk' }) :
    wpAny (model PG w) (ktrTop dp un gd cn cs L a ccd cl outer) (call (.ref 905) [x, y]) Q E' s := by
  have hpt9 : Pt 20 := trivial
  refine @wpAny_call _ _ _ _ _ _ _ _ ?_
  cases d with
  | one v =>
    obtain ⟨rfl, hv⟩ := hx
    obtain ⟨rfl, _⟩ := hy
    cases hv with
    | none =>
      have hv9 : AVOk Z (.lf .none) := .none
      dsimp only [AV.val]
      k_dflt (refine' code_defC ?k1 ?k2 ?k3 ?k4 ?k5 ?kA ?kF ?kK ?k6 ?k7 ?k8 ?k9 ?kB ?kD ?_ ?c2 ?c3 ?c4; (case kA => exact rfl); (case kF => exact rfl); (case kK => assumption); (case k1 => k_asm); (case k2 => k_asm); (case k3 => k_asm); (case k4 => k_asm); (case k5 => k_asm); (case k6 => k_is); (case k7 => k_is); (case k8 => ktr_room); (case k9 => exact BindsTo.of_eq rfl); (case kB => exact rfl); (case kD => decide +kernel); (case c2 => exact rfl); (case c3 => exact rfl); (case c4 => exact rfl); k_whole; intro g' L' h' tk' cells' FG' F' N' Y' B' X' T' l1; (try k_lt l1); k_cells Y'; (try simp only [List.cons_append, List.nil_append] at N'); (try dsimp only); (try k_lift B'); (try k_fold))
      have hz1 : ∀ q ∈ news, q.1 ≠ L' + 1 + 1 := fun q hq => Nat.ne_of_lt (Nat.lt_succ_of_lt (Nat.lt_succ_of_lt (l1 q hq)))
      have hz2 : ∀ q ∈ news, q.1 ≠ L' + 1 := fun q hq => Nat.ne_of_lt (Nat.lt_succ_of_lt (l1 q hq))
      k_extra "steps"
      rename_i kF kN _ _
      exact hret _ _ kF (nsub kN (by k_extra "all"))
    | int =>
      rename_i ki ti _
      have hv9 : AVOk Z (.lf (.int ki ti)) := .int
      dsimp only [AV.val]
      k_dflt (refine' code_defC ?k1 ?k2 ?k3 ?k4 ?k5 ?kA ?kF ?kK ?k6 ?k7 ?k8 ?k9 ?kB ?kD ?_ ?c2 ?c3 ?c4; (case kA => exact rfl); (case kF => exact rfl); (case kK => assumption); (case k1 => k_asm); (case k2 => k_asm); (case k3 => k_asm); (case k4 => k_asm); (case k5 => k_asm); (case k6 => k_is); (case k7 => k_is); (case k8 => ktr_room); (case k9 => exact BindsTo.of_eq rfl); (case kB => exact rfl); (case kD => decide +kernel); (case c2 => exact rfl); (case c3 => exact rfl); (case c4 => exact rfl); k_whole; intro g' L' h' tk' cells' FG' F' N' Y' B' X' T' l1; (try k_lt l1); k_cells Y'; (try simp only [List.cons_append, List.nil_append] at N'); (try dsimp only); (try k_lift B'); (try k_fold))
      have hz1 : ∀ q ∈ news, q.1 ≠ L' + 1 + 1 := fun q hq => Nat.ne_of_lt (Nat.lt_succ_of_lt (Nat.lt_succ_of_lt (l1 q hq)))
      have hz2 : ∀ q ∈ news, q.1 ≠ L' + 1 := fun q hq => Nat.ne_of_lt (Nat.lt_succ_of_lt (l1 q hq))
      k_extra "steps"
      rename_i kF kN _ _
      exact hret _ _ kF (nsub kN (by k_extra "all"))
    | ar hlen hLA hits =>
      have hv9 := AVOk.ar hlen hLA hits
      obtain ⟨dx, es, n, li, nl, kn, tn, q1, q2, q3, q4, q5⟩ := hLA
      dsimp only [AV.val]
      k_dflt (refine' code_defC ?k1 ?k2 ?k3 ?k4 ?k5 ?kA ?kF ?kK ?k6 ?k7 ?k8 ?k9 ?kB ?kD ?_ ?c2 ?c3 ?c4; (case kA => exact rfl); (case kF => exact rfl); (case kK => assumption); (case k1 => k_asm); (case k2 => k_asm); (case k3 => k_asm); (case k4 => k_asm); (case k5 => k_asm); (case k6 => k_is); (case k7 => k_is); (case k8 => ktr_room); (case k9 => exact BindsTo.of_eq rfl); (case kB => exact rfl); (case kD => decide +kernel); (case c2 => exact rfl); (case c3 => exact rfl); (case c4 => exact rfl); k_whole; intro g' L' h' tk' cells' FG' F' N' Y' B' X' T' l1; (try k_lt l1); k_cells Y'; (try simp only [List.cons_append, List.nil_append] at N'); (try dsimp only); (try k_lift B'); (try k_fold))
      have hz1 : ∀ q ∈ news, q.1 ≠ L' + 1 + 1 := fun q hq => Nat.ne_of_lt (Nat.lt_succ_of_lt (Nat.lt_succ_of_lt (l1 q hq)))
      have hz2 : ∀ q ∈ news, q.1 ≠ L' + 1 := fun q hq => Nat.ne_of_lt (Nat.lt_succ_of_lt (l1 q hq))
      k_extra "steps"
      rename_i kF kN _ _
      exact hret _ _ kF (nsub kN (by k_extra "all"))
  | many vs =>
    obtain ⟨hl30, hok, la, rfl, hLA⟩ := hx
    obtain ⟨_, _, ld, nd, rfl, hld⟩ := hy
    obtain ⟨dx, es, n, li, nl, kn, tn, q1, q2, q3, q4, q5⟩ := hLA
    have hvm : (vs.map AV.val).length = vs.length := List.length_map ..
    k_dflt (refine' code_defC ?k1 ?k2 ?k3 ?k4 ?k5 ?kA ?kF ?kK ?k6 ?k7 ?k8 ?k9 ?kB ?kD ?_ ?c2 ?c3 ?c4; (case kA => exact rfl); (case kF => exact rfl); (case kK => assumption); (case k1 => k_asm); (case k2 => k_asm); (case k3 => k_asm); (case k4 => k_asm); (case k5 => k_asm); (case k6 => k_is); (case k7 => k_is); (case k8 => ktr_room); (case k9 => exact BindsTo.of_eq rfl); (case kB => exact rfl); (case kD => decide +kernel); (case c2 => exact rfl); (case c3 => exact rfl); (case c4 => exact rfl); k_whole; intro g' L' h' tk' cells' FG' F' N' Y' B' X' T' l1; (try k_lt l1); k_cells Y'; (try simp only [List.cons_append, List.nil_append] at N'); (try dsimp only); (try k_lift B'); (try k_fold))
    have hz1 : ∀ q ∈ news, q.1 ≠ L' + 1 + 1 := fun q hq => Nat.ne_of_lt (Nat.lt_succ_of_lt (Nat.lt_succ_of_lt (l1 q hq)))
    have hz2 : ∀ q ∈ news, q.1 ≠ L' + 1 := fun q hq => Nat.ne_of_lt (Nat.lt_succ_of_lt (l1 q hq))
    k_extra "steps"
    · refine Stp.in ?_
      rename_i _ oDu _ dDu _ o2 d2 _ _ _ _ _ _ R1 F1 N1 _
      have dDq : oDu.data = .cell (some (.ref ld)) := dDu
      clear dDu
      refine LCt.CompSrcT.range (n := vs.length) rfl F1 N1 R1 (small_one (by decide) (by decide) (by lia) (by lia)) (by rw [rangeSize_one]; split <;> lia) (by rw [sizeLine_eq]; lia) ?_
      intro g2
      refine compZT (fun j ys nw => nw = (L' + 1 + 1, o2) :: (L' + 1, oDu) :: news ∧ ys = []) (fun _ _ _ _ => trivial) ?_ ?_ ⟨rfl, rfl⟩
      · rintro j v ys nw I2 oI2 C oC D2 m₂ h2 tk2 E2 hj ⟨tj, rfl⟩ ⟨rfl, rfl⟩ hC hx F4 N4 o1 o2x o3 hne
        have hgv : (vs.map AV.val).getD ((0 : Int) + (j : Int)).toNat Value.none = (vs[j]).val := by
          have e : ((0 : Int) + (j : Int)).toNat = j := by lia
          rw [e]; simp [hj]
        have hvok := hok _ (List.getElem_mem hj)
        k_extra "steps"
        rename_i F9 N9
        exact CZ.intro F9 N9 _ (by k_extra "all") o1 o2x o3 ⟨rfl, rfl⟩
      · rintro ys nw ⟨rfl, rfl⟩
        refine finE ?_
        intro D' h' tk' F' N' o1
        k_extra "steps"
        rename_i kF kN _ _
        exact hret _ _ kF (nsub kN (by k_extra "all"))
    · rename_i hne _ _ _ _
      exact absurd rfl hne
end
end
section
theorem lines_24 : True := by
  k_with "own subscriptTail Name Constant ref int" => ((fail_if_success fail_if_success with_reducible rename Pt 15 => hg9); (k_here; (with_reducible show wpAny _ _ (subscriptTail _ _ (Value.ref _) (Value.int _ _)) _ _ _); k_dflt (refine @item_at _ _ _ _ _ _ _ _ _ _ _ _ _ _ _ _ _ (by k_asm) (by k_mem) (by with_reducible assumption) (by decide) (by exact Nat.le_of_ble_eq_true rfl) ?_ (by with_unfolding_all rfl); k_whole)))
  k_with "own subscriptTail Subscript" => ((fail_if_success fail_if_success with_reducible rename Pt 15 => hg9); (k_here; (with_reducible show wpAny _ _ (subscriptTail _ _ (Value.ref _) (Value.int _ _)) _ _ _); k_dflt (refine @item_at _ _ _ _ _ _ _ _ _ _ _ _ _ _ _ _ _ (by k_asm) (by k_mem) (by with_reducible assumption) (by decide) (by exact Nat.le_of_ble_eq_true rfl) ?_ (by with_unfolding_all rfl); k_whole)))
  k_with "own call builtin:isinstance" => ((fail_if_success fail_if_success with_reducible rename Pt 15 => hg9); (k_here; (with_reducible show wpAny _ _ (call _ [Value.int _ _, Value.ref 261]) _ _ _); k_dflt (refine @isn_iL _ _ _ _ _ _ _ (by k_in) ?_; k_whole)))
  k_with "own call builtin:isinstance" => ((fail_if_success fail_if_success with_reducible rename Pt 15 => hg9); (k_here; (with_reducible show wpAny _ _ (call _ [Value.none, Value.ref 261]) _ _ _); k_dflt (refine @isn_nL _ _ _ _ _ (by k_in) ?_; k_whole)))
  k_with "own call builtin:isinstance" => ((fail_if_success fail_if_success with_reducible rename Pt 15 => hg9); (k_here; (with_reducible show wpAny _ _ (call _ [Value.ref _, Value.ref 261]) _ _ _); k_dflt (refine @isi_L _ _ _ _ _ _ _ _ (by k_in) (InstAt.of_news (by k_asm) (by k_mem) (by k_mem)) ?_; k_whole)))
  k_with "own getAttr ref" => ((fail_if_success fail_if_success with_reducible rename Pt 15 => hg9); (k_here; k_dflt (refine @get_own _ _ _ _ _ _ _ _ _ _ _ _ _ _ _ _ _ _ _ (by k_asm) (by k_asm) (by k_inst) (by k_is) (by k_is) (by k_is) (by k_is) (by with_reducible assumption) (by k_handed) ?_; k_whole)))
  k_with "own call ref" => ((fail_if_success fail_if_success with_reducible rename Pt 15 => hg9); (k_here; (with_reducible show wpAny _ _ (call (Value.ref 525) [_, _, _, _]) _ _ _); refine Stp.out ?_))
  k_with "own call ref" => ((fail_if_success fail_if_success with_reducible rename Pt 15 => hg9); (k_here; (with_reducible show wpAny _ _ (call (Value.ref 900) [_, _]) _ _ _); refine Stp.out ?_))
  k_with "own eval BoolOp" => ((fail_if_success fail_if_success with_reducible rename Pt 15 => hg9); (k_here; (with_reducible rename StpE => hstp9); clear hstp9; refine Stp.out ?_))
  k_with "own exec If" => ((fail_if_success fail_if_success with_reducible rename Pt 15 => hg9); (k_here; (with_reducible show wpAny _ _ (exec (Stmt.If (Expr.BoolOp BoolOp.And _ _) _ _ _) _) _ _ _); (with_reducible rename StpE => hstp9); clear hstp9; refine Stp.out ?_))
  trivial
def StpQ : Prop := True
def StpL : Prop := True
theorem lines_25 : True := by
  k_with "own compareOp NotIn str ref" => ((fail_if_success fail_if_success with_reducible rename Pt 15 => hg9); (k_here; (with_reducible rename DD _ _ _ _ => hdd9); k_dflt (refine @dd_notin _ _ _ _ _ _ _ _ _ _ _ _ _ _ (by k_asm) (by k_mem) hdd9 (by with_reducible assumption) ?_; k_whole); intro b' _; cases b' <;> (try dsimp only [Bool.not_false, Bool.not_true])))
  k_with "own setItem ref str" => ((fail_if_success fail_if_success with_reducible rename Pt 15 => hg9); (k_here; (with_reducible rename DD _ _ _ _ => hdd9); refine Stp.out ?_))
  k_with "own compareOp Eq ref ref" => ((fail_if_success fail_if_success with_reducible rename Pt 15 => hg9); (k_here; (with_reducible rename StpQ => hstp9); clear hstp9; refine Stp.out ?_))
  k_with "own eval ListComp" => ((fail_if_success fail_if_success with_reducible rename Pt 15 => hg9); (k_here; (with_reducible rename StpL => hstp9); clear hstp9; refine Stp.out ?_))
  k_with "own call builtin:sorted" => ((fail_if_success fail_if_success with_reducible rename Pt 15 => hg9); (k_here; (with_reducible show wpAny _ _ (call (Value.builtin "sorted") [Value.ref _]) _ _ _); k_dflt (refine @sorted_dict _ _ _ _ _ _ _ _ _ _ _ _ _ (by exact rfl) (by k_asm) (by k_asm) (by k_mem) (by with_reducible assumption) (by with_reducible assumption) (by lia) ?_; k_whole); intro _ _ _ _ _ _ _ _ l1' _ _ _; (first | k_lt l1' | (revert l1'; intro _))))
  k_with "own subscriptTail Name Name ref str" => ((fail_if_success fail_if_success with_reducible rename Pt 15 => hg9); (k_here; (with_reducible show wpAny _ _ (subscriptTail _ _ (Value.ref _) (Value.str _ _)) _ _ _); k_dflt (refine @kda_item _ _ _ _ (PySem.strKind _ _) _ _ _ _ _ _ _ _ _ _ _ _ _ _ _ (by k_asm) (by k_mem) (by with_reducible assumption) (strKind_is _ _ _ _) (by with_reducible assumption) ?_ (by with_unfolding_all rfl) (by (intro _; with_unfolding_all rfl)); k_whole)))
  k_with "own call ref" => ((fail_if_success fail_if_success with_reducible rename Pt 15 => hg9); (k_here; (with_reducible show wpAny _ _ (call (Value.ref 905) [_, _]) _ _ _); k_dflt ((refine' is_use (by k_asm) (by k_asm) (by k_asm) (by k_asm) (by first | exact rfl | assumption) (by ktr_room) (by ktr_units) (by k_asm) ?_ (by with_reducible assumption) (by with_reducible assumption) ?_); (focus k_extra "p2")); intro _ _ _ _; (try dsimp only); (try k_sweep)))
  k_with "own CompSrcD" => ((fail_if_success fail_if_success with_reducible rename Pt 15 => hg9); (refine Stp.out ?_))
  trivial
section
variable {w : World} {p : Program} {loose : List Str} {mean : ExcName → Option Value} {mg mb : Str → Option Value} {dp un : Nat} {gd : Option (List Code)} {cn : Str} {cs : Scope} {a : Addr} {ccd : Value} {A₀ : Around} {base h₀ : Heap} {L : Addr} {m : Str → Option Value} {s : Shared} {Q E' : Value → Shared → Prop}
theorem optNe_len (o : Option Str) : (optNe o).length ≤ 1 := by
  cases o with
  | none => exact Nat.zero_le _
  | some x =>
    show (if x = "" then ([] : List Str) else [x]).length ≤ 1
    by_cases h : x = ""
    · rw [if_pos h]; exact Nat.zero_le _
    · rw [if_neg h]; exact Nat.le_refl _
theorem specA_len (R : Row) (a : List AV) : (specA R a).length ≤ R.fr.length + R.op.length + 1 + R.ba.length := by
  unfold specA restA
  have h4 := optNe_len R.re
  simp only [List.length_append, List.length_map, zipP_len]
  exact Nat.add_le_add (Nat.add_le_add (Nat.add_le_add (Nat.min_le_left _ _) (Nat.min_le_left _ _)) h4) (Nat.min_le_left _ _)
inductive BrtJ (f9 d9 dW mD : Addr) (cF cD ow om : Obj) (E Z : Led) (sp : List AV) : Value → Led → Prop
  | mk (l : Addr) (nl : Nat) (Zi : Led) (c1 : Ext Z Zi) (c2 : OffAll E Zi) (c3 : (∀ q ∈ Zi, q.1 ≠ f9)) (c4 : (∀ q ∈ Zi, q.1 ≠ d9)) (c5 : (∀ q ∈ Zi, q.1 ≠ dW)) (c6 : (∀ q ∈ Zi, q.1 ≠ mD)) (c7 : (l, PySem.W.listOf ((sp : List AV).map AV.val).toArray nl) ∈ Zi) : BrtJ f9 d9 dW mD cF cD ow om E Z sp (.ref l) ((f9, cF) :: (d9, cD) :: (dW, ow) :: (mD, om) :: (E ++ Zi))
inductive BrtK (w : World) (dA dW mD f9 d9 : Addr) (ow6 om6 cU cV : Obj) (R : Row) (fa : List AV) (E Z6 : Led) (i : Nat) : Led → Prop
  | mk (o : Obj) (Zi : Led) (c1 : Ext Z6 Zi) (c2 : OffAll E Zi) (c3 : (∀ q ∈ Zi, q.1 ≠ dA)) (c4 : (∀ q ∈ Zi, q.1 ≠ dW)) (c5 : (∀ q ∈ Zi, q.1 ≠ mD)) (c6 : (∀ q ∈ Zi, q.1 ≠ f9)) (c7 : (∀ q ∈ Zi, q.1 ≠ d9)) (c8 : DD w Zi o (((assigns R (fa)).take i).foldl setd [])) : BrtK w dA dW mD f9 d9 ow6 om6 cU cV R fa E Z6 i ((dA, o) :: (dW, ow6) :: (mD, om6) :: (f9, cU) :: (d9, cV) :: (E ++ Zi))
theorem brt_use {strict : Bool} {n : Nat} {W dW mD pa la ra : Addr} {ow om : Obj} {rd : Bool} {R : Row} {as : List AV} {na : Nat} {tb : Tok} {Z Rr R1 E news : Led} (XB : (hd.heap_39 w.params).In base) (TB : Top p loose mean mg mb base)
    (B : Below A₀ base [] h₀) (F : Fr h₀ L s.heap m) (X : (hd.heap_39 w.params).In h₀) (T : Top p loose mean mg mb h₀) (hk : cs.kind = .function) (hd : dp + 2 * n + 70 < recursionLimit) (hu : un + 100 * n + 1200 < cLine)
    (hs : WSt w Z W dW mD ow om rd n) (N : News h₀ L s.heap news) (P : Pick dW ow news R1) (P2 : Pick mD om R1 Rr) (S : Spl Z Rr E) (hne : @Ne Nat dW mD) (ho : ∀ p ∈ Rr, p.1 ≠ dW) (ho2 : ∀ p ∈ Rr, p.1 ≠ mD) (hE : OffAll E Z)
    (hR : RowAt Z ra R) (hP : MadeAt Z pa R) (hA : (la, PySem.W.listOf (as.map AV.val).toArray na) ∈ Z) (hal : as.length ≤ 20) (hll : (laidA R as).length ≤ 20) (hok : ∀ v ∈ as, AVOk Z v)
    (hret : ∀ Z' ow' om' h' tk', Ext Z Z' → OffAll E Z' → (∀ q ∈ Z', q.1 ≠ dW) → (∀ q ∈ Z', q.1 ≠ mD) → WSt w Z' W dW mD ow' om' rd n → Fr h₀ L h' m → News h₀ L h' ((dW, ow') :: (mD, om') :: (E ++ Z')) → Q (.bool true) { s with heap := h', toks := tk' }) :
    wpAny (model PG w) (ktrTop dp un gd cn cs L a ccd [] []) (call (.ref 910) [.ref W, .ref ra, .ref pa, .ref la, .bool strict]) Q E' s := by
  have hp29 : Pt 2 := trivial
  have hpt9 : Pt 15 := trivial
  have N1 : News h₀ L s.heap ((dW, ow) :: (mD, om) :: (E ++ Z)) := nsub N fun p hp => P.sub _ (by
    rcases List.mem_cons.mp hp with rfl | hp
    · exact List.mem_cons_self
    · exact List.mem_cons_of_mem _ (P2.sub _ (S.eq ▸ hp)))
  rw [S.eq] at ho ho2
  clear N P P2 S
  have o1E := off_appL ho
  have o1Z := off_appR ho
  have o2E := off_appL ho2
  have o2Z := off_appR ho2
  have hRR := hR
  obtain ⟨lf, lo, lb, fv, ov, bv, nf, no, nb, rv, blv, h1, h2, h3, h4, h5, h6, h7, h8, h9, h10, h11, h12, hxl⟩ := hR
  have hfl : fv.length = R.fr.length := h5.len
  have hol : ov.length = R.op.length := h6.len
  have hbl : bv.length = R.ba.length := h8.len
  have hml : (as.map AV.val).length = as.length := List.length_map ..
  have hstp : StpE := trivial
  refine @wpAny_call _ _ _ _ _ _ _ _ ?_
  k_dflt (refine' code_defCS0 ?k1 ?k2 ?k3 ?k4 ?k5 ?kA ?k6 ?k7 ?k8 ?k9 ?kB ?kD ?_ ?kK ?c2 ?c3 ?c4; (case kA => exact rfl); (case kK => first | exact rfl | assumption); (case k1 => k_asm); (case k2 => k_asm); (case k3 => k_asm); (case k4 => k_asm); (case k5 => k_asm); (case k6 => k_is); (case k7 => k_is); (case k8 => ktr_room); (case k9 => exact BindsTo.of_eq rfl); (case kB => exact rfl); (case kD => decide +kernel); (case c2 => exact rfl); (case c3 => exact rfl); (case c4 => exact rfl); k_whole; intro g' L' h' tk' cells' FG' F' N' Y' B' X' T' l1 D'; (have hltL := l1); (try k_extra "lt1"); k_cells Y'; (try simp only [List.cons_append, List.nil_append] at N'); (try dsimp only); (try k_lift B'); (try k_fold))
  replace hltL : ∀ q ∈ E ++ Z, q.1 < L' := fun q hq => hltL q (List.mem_cons_of_mem _ (List.mem_cons_of_mem _ hq))
  k_extra "steps"
  refine Stp.in ?_
  rename_i cF cD dF dD _ _ F1 N1'
  refine @cutE _ _ _ _ _ _ _ _ _ (fun v nw => nw = (L' + 1 + 1, cF) :: (L' + 1, cD) :: (dW, ow) :: (mD, om) :: (E ++ Z) ∧ ∃ b, v = .bool b ∧ (b = true ↔ fitsA R as)) F1 ?_ ?_
  · 
    cases hre : R.re with
    | none =>
      rw [hre] at h7
      cases h7
      k_extra "steps"
      all_goals (refine CutP.intro F1 N1' _ (fun _ h => h) ⟨rfl, _, rfl, ?_⟩; unfold fitsA; simp only [hre, decide_eq_true_eq, Bool.false_eq_true, reduceCtorEq, false_implies, forall_const, and_true, true_iff, false_iff]; lia)
    | some x =>
      rw [hre] at h7
      obtain ⟨tx, rfl⟩ := h7
      k_extra "steps"
      all_goals (refine CutP.intro F1 N1' _ (fun _ h => h) ⟨rfl, _, rfl, ?_⟩; unfold fitsA; simp only [hre, decide_eq_true_eq, Bool.false_eq_true, reduceCtorEq, false_implies, forall_const, and_true, true_iff, false_iff]; lia)
    
  · rintro v h2 tk2 nw F2 N2 ⟨rfl, b, rfl, hb⟩
    have hstp : StpE := trivial
    k_extra "steps"
    refine Stp.in ?_
    rename_i D1 c1 _ l2 hot1 _ F3 N3
    refine and5 l2 fun hd1 hd2 hd3 hd4 _ => ?_
    have hs3 := off_appL hot1
    have hs4 := off_appR hot1
    refine and3 l1 fun hl1 hl2 _ => ?_
    have hzl : ∀ q ∈ E ++ Z, q.1 < L' := hltL
    have hz1 : ∀ q ∈ Z, q.1 ≠ L' + 1 + 1 := fun q hq => Nat.ne_of_lt (Nat.lt_succ_of_lt (Nat.lt_succ_of_lt (hzl q (List.mem_append_right _ hq))))
    have hz2 : ∀ q ∈ Z, q.1 ≠ L' + 1 := fun q hq => Nat.ne_of_lt (Nat.lt_succ_of_lt (hzl q (List.mem_append_right _ hq)))
    have ez1 : ∀ q ∈ E, q.1 ≠ L' + 1 + 1 := fun q hq => Nat.ne_of_lt (Nat.lt_succ_of_lt (Nat.lt_succ_of_lt (hzl q (List.mem_append_left _ hq))))
    have ez2 : ∀ q ∈ E, q.1 ≠ L' + 1 := fun q hq => Nat.ne_of_lt (Nat.lt_succ_of_lt (hzl q (List.mem_append_left _ hq)))
    replace N3 := nsub (news' := (L' + 1 + 1, cF) :: (L' + 1, cD) :: (dW, ow) :: (mD, om) :: (E ++ ((D1, PySem.W.listOf (as.map AV.val).toArray c1) :: Z))) N3 (by k_extra "all")
    refine @cutX1 _ _ _ _ _ _ _ _ _ (Str.ofString "laid") (BrtJ (L' + 1 + 1) (L' + 1) dW mD cF cD ow om E Z (if strict then as else laidA R as : List AV)) F3 ?_ ?_
    · 
      have hJ0 : BrtJ (L' + 1 + 1) (L' + 1) dW mD cF cD ow om E Z as (.ref D1) ((L' + 1 + 1, cF) :: (L' + 1, cD) :: (dW, ow) :: (mD, om) :: (E ++ ((D1, PySem.W.listOf (as.map AV.val).toArray c1) :: Z))) :=
        ⟨D1, c1, _, Ext.refl.cons, offAll_cons hE hs3, off_cons (Ne.symm (Nat.ne_of_lt hd1)) hz1, off_cons (Ne.symm (Nat.ne_of_lt hd2)) hz2, off_cons (Ne.symm (Nat.ne_of_lt hd3)) o1Z, off_cons (Ne.symm (Nat.ne_of_lt hd4)) o2Z, List.mem_cons_self⟩
      cases strict with
      | true =>
        k_extra "steps"
        exact CutF1.intro F3 N3 (fun y _ => rfl) rfl _ (fun _ h => h) hJ0
      | false =>
        have hJ : laidA R as = as → BrtJ (L' + 1 + 1) (L' + 1) dW mD cF cD ow om E Z (if false = true then as else laidA R as : List AV) (.ref D1) ((L' + 1 + 1, cF) :: (L' + 1, cD) :: (dW, ow) :: (mD, om) :: (E ++ ((D1, PySem.W.listOf (as.map AV.val).toArray c1) :: Z))) := fun e => by
          rw [if_neg Bool.false_ne_true, e]; exact hJ0
        clear hJ0
        refine AVOk.args hok (fun e => ?_) (fun kv tv e => ?_) (fun ax its hlen hLA e => ?_) (fun hne => ?_)
        · have N9 := N3
          have A9 := hA
          have F9 := F3
          rw [e] at N9 A9 F9
          simp only [List.map_cons, List.map_nil, AV.val] at N9 A9
          have hg0 : [Value.none][(0 : Int).toNat]? = some Value.none := rfl
          k_extra "steps"
          exact CutF1.intro F3 N3 (fun y _ => rfl) rfl _ (fun _ h => h) (hJ (by rw [e]; rfl))
        · have N9 := N3
          have A9 := hA
          have F9 := F3
          rw [e] at N9 A9 F9
          simp only [List.map_cons, List.map_nil, AV.val] at N9 A9
          have hg0 : [Value.int kv tv][(0 : Int).toNat]? = some (Value.int kv tv) := rfl
          k_extra "steps"
          · exact CutF1.intro F3 N3 (fun y _ => rfl) rfl _ (fun _ h => h) (hJ (by rw [e]; rfl))
          · rename_i hx
            exact absurd rfl hx
        · have N9 := N3
          have A9 := hA
          have F9 := F3
          rw [e] at N9 A9 F9
          simp only [List.map_cons, List.map_nil, AV.val] at N9 A9
          · obtain ⟨dxl, esl, nnl, li, nli, kln, tln, ql1, ql2, ql3, ql4, ql5⟩ := hLA
            have hg0 : [Value.ref ax][(0 : Int).toNat]? = some (Value.ref ax) := rfl
            cases hre : R.re with
            | none =>
              rw [hre] at h7
              cases h7
              k_extra "steps"
              · rename_i hgt _ D2 c2 _ l2' hot2' _ F5 N5
                refine and5 l2' fun k1 k2 k3 k4 _ => ?_
                have hpl : placesN R > 1 := by
                  unfold placesN; rw [hre]; (try simp only [Bool.false_eq_true, if_false, if_true, reduceCtorEq] at hgt); (try simp only [Bool.false_eq_true, if_false, if_true, reduceCtorEq]); lia
                have el : laidA R as = its := by rw [e]; exact if_pos hpl
                exact CutF1.intro F5 N5 (fun y hy => by rw [e]; simp only [List.contains_cons, List.contains_nil, Bool.or_false, beq_eq_false_iff_ne, ne_eq] at hy; simp [hy]) rfl ((L' + 1 + 1, cF) :: (L' + 1, cD) :: (dW, ow) :: (mD, om) :: (E ++ ((D2, PySem.W.listOf (its.map AV.val).toArray c2) :: Z))) (by k_extra "all")
                  ⟨D2, c2, _, Ext.refl.cons, offAll_cons hE (off_appL hot2'), off_cons (Ne.symm (Nat.ne_of_lt k1)) hz1, off_cons (Ne.symm (Nat.ne_of_lt k2)) hz2, off_cons (Ne.symm (Nat.ne_of_lt k3)) o1Z, off_cons (Ne.symm (Nat.ne_of_lt k4)) o2Z, by rw [if_neg Bool.false_ne_true, el]; exact List.mem_cons_self⟩
              · rename_i hgt
                have hpl : ¬ placesN R > 1 := by
                  unfold placesN; rw [hre]; (try simp only [Bool.false_eq_true, if_false, if_true, reduceCtorEq] at hgt); (try simp only [Bool.false_eq_true, if_false, if_true, reduceCtorEq]); lia
                exact CutF1.intro F3 N3 (fun y _ => rfl) rfl _ (fun _ h => h) (hJ (by rw [e]; exact if_neg hpl))
              · rename_i hx
                exact absurd rfl hx
            | some x =>
              rw [hre] at h7
              obtain ⟨tx, rfl⟩ := h7
              k_extra "steps"
              · rename_i hgt _ D2 c2 _ l2' hot2' _ F5 N5
                refine and5 l2' fun k1 k2 k3 k4 _ => ?_
                have hpl : placesN R > 1 := by
                  unfold placesN; rw [hre]; (try simp only [Bool.false_eq_true, if_false, if_true, reduceCtorEq] at hgt); (try simp only [Bool.false_eq_true, if_false, if_true, reduceCtorEq]); lia
                have el : laidA R as = its := by rw [e]; exact if_pos hpl
                exact CutF1.intro F5 N5 (fun y hy => by rw [e]; simp only [List.contains_cons, List.contains_nil, Bool.or_false, beq_eq_false_iff_ne, ne_eq] at hy; simp [hy]) rfl ((L' + 1 + 1, cF) :: (L' + 1, cD) :: (dW, ow) :: (mD, om) :: (E ++ ((D2, PySem.W.listOf (its.map AV.val).toArray c2) :: Z))) (by k_extra "all")
                  ⟨D2, c2, _, Ext.refl.cons, offAll_cons hE (off_appL hot2'), off_cons (Ne.symm (Nat.ne_of_lt k1)) hz1, off_cons (Ne.symm (Nat.ne_of_lt k2)) hz2, off_cons (Ne.symm (Nat.ne_of_lt k3)) o1Z, off_cons (Ne.symm (Nat.ne_of_lt k4)) o2Z, by rw [if_neg Bool.false_ne_true, el]; exact List.mem_cons_self⟩
              · rename_i hgt
                have hpl : ¬ placesN R > 1 := by
                  unfold placesN; rw [hre]; (try simp only [Bool.false_eq_true, if_false, if_true, reduceCtorEq] at hgt); (try simp only [Bool.false_eq_true, if_false, if_true, reduceCtorEq]); lia
                exact CutF1.intro F3 N3 (fun y _ => rfl) rfl _ (fun _ h => h) (hJ (by rw [e]; exact if_neg hpl))
              · rename_i hx
                exact absurd rfl hx
        · k_extra "steps"
          · rename_i hx
            exact absurd (by lia) hne
          · exact CutF1.intro F3 N3 (fun y _ => rfl) rfl _ (fun _ h => h) (hJ (laidA_ne hne))
      
    · rintro v h4 tk4 nw F4 N4 ⟨ll, nll, Z4, hZ4, hE4, hu1, hu2, hu3, hu4, hll4⟩
      generalize hlad : (if strict then as else laidA R as : List AV) = lad at *
      have hadl : lad.length ≤ 20 := by subst hlad; cases strict; exact hll; exact hal
      have hado : ∀ v ∈ lad, AVOk Z4 v := by subst hlad; cases strict; exact AVOk.all_mono hZ4 (laidA_ok hok); exact AVOk.all_mono hZ4 hok
      have hE4' : OffAll ((L' + 1 + 1, cF) :: (L' + 1, cD) :: (dW, ow) :: (mD, om) :: E) Z4 := ⟨hu1, hu2, hu3, hu4, hE4⟩
      k_extra "steps"
      refine Stp.in ?_
      k_dflt (refine' pairs_use (R := R) (as := lad) ?B ?F ?X ?T ?hk ?hd ?hu N4 ?S hE4' (hRR.mono hZ4) hll4 hado hadl ?_; (case B => k_asm); (case F => k_asm); (case X => k_asm); (case T => k_asm); (case hk => first | exact rfl | assumption); (case hd => ktr_room); (case hu => ktr_units); (case S => exact Spl.cons (Spl.cons (Spl.cons (Spl.cons Spl.app)))))
      intro Tp lp pvs np9 tc Z5 h5 tk5 hZ5 hOE5 hTp hlp hall F5 N5
      obtain ⟨hv1, hv2, hv3, hv4, hE5⟩ := hOE5
      replace hv1 : ∀ q ∈ Z5, q.1 ≠ L' + 1 + 1 := hv1
      replace hv2 : ∀ q ∈ Z5, q.1 ≠ L' + 1 := hv2
      replace hv3 : ∀ q ∈ Z5, q.1 ≠ dW := hv3
      replace hv4 : ∀ q ∈ Z5, q.1 ≠ mD := hv4
      simp only [List.cons_append] at N5
      k_extra "steps"
      refine @wpAny_Try_except _ _ _ _ _ _ _ _ _ _ _ _ ?_
      have hZZ5 : Ext Z Z5 := hZ4.trans hZ5
      have hs5 := hs.mono hZZ5 (Nat.le_refl _)
      have hMA5 := hP.mono hZZ5
      have hP5 : (la, PySem.W.listOf (as.map AV.val).toArray na) ∈ Z5 := hZZ5 _ hA
      have hok5 := AVOk.all_mono hZZ5 hok
      have hR1 : ∀ q ∈ (L' + 1 + 1, cF) :: (L' + 1, cD) :: (mD, om) :: (E ++ Z5), q.1 ≠ dW := off_cons (by dsimp only; lia) (off_cons (by dsimp only; lia) (off_cons (Ne.symm hne) (off_join o1E hv3)))
      have hR2 : ∀ q ∈ (L' + 1 + 1, cF) :: (L' + 1, cD) :: (E ++ Z5), q.1 ≠ dW := off_cons (by dsimp only; lia) (off_cons (by dsimp only; lia) (off_join o1E hv3))
      have hR3 : ∀ q ∈ (L' + 1 + 1, cF) :: (L' + 1, cD) :: (E ++ Z5), q.1 ≠ mD := off_cons (by dsimp only; lia) (off_cons (by dsimp only; lia) (off_join o2E hv4))
      have hE5' : OffAll ((L' + 1 + 1, cF) :: (L' + 1, cD) :: E) Z5 := ⟨hv1, hv2, hE5⟩
      by_cases hbad : strict = true ∧ ¬ fitsA R as
      · 
        obtain ⟨rfl, hnf⟩ := hbad
        have hbf : b = false := by
          cases b
          · rfl
          · exact absurd (hb.mp rfl) hnf
        subst hbf
        k_extra "steps"
        refine Stp.in ?_
        k_dflt (refine' bnr_use (n := n) (R := R) (as := as) (tb := tb) ?B ?F ?X ?T ?hk ?hd ?hu hs5 ?N (.tail (.tail .head)) (.tail (.tail .head)) (.cons (.cons .app)) hne hR2 hR3 hE5' hMA5 hP5 (by lia) hnf ?_; (case N => k_asm); (case B => k_asm); (case F => k_asm); (case X => k_asm); (case T => k_asm); (case hk => first | exact rfl | assumption); (case hd => ktr_room); (case hu => ktr_units))
        intro e t vs g Z6 ow6 om6 h6 tk6 hZ6 hE6 hW6 hM6 hs6 FG6 R6 U6
        k_dflt (refine' caughtX R6 FG6 B' U6 XB TB D' ?ex ?q ?_; (case ex => k_is); (case q => kts_isx); k_whole)
        intro h7 g7 T7 F7 N7 B7 X7 TT7 D7
        k_extra "steps"
        rename_i kF kN _ _
        simp only [List.cons_append] at kN
        exact hret Z6 ow6 om6 _ _ (hZZ5.trans hZ6) hE6.2.2 hW6 hM6 hs6 kF (nsub kN (by k_extra "all"))
        
      · have hfit : strict = true → fitsA R as := fun e => Classical.byContradiction fun h => hbad ⟨e, h⟩
        have hbe : boundA strict R as = fitA R lad := by unfold boundA; rw [hlad]
        k_extra "steps"
        refine Stp.in ?_
        k_dflt (refine' bnd_use (n := n) (R := R) (as := as) (tb := tb) ?B ?F ?X ?T ?hk ?hd ?hu hs5 ?N (.tail (.tail .head)) (.tail (.tail .head)) (.cons (.cons .app)) hne hR2 hR3 hE5' hMA5 hP5 (by lia) hok5 (by lia) hfit ?_; (case N => k_asm); (case B => k_asm); (case F => k_asm); (case X => k_asm); (case T => k_asm); (case hk => first | exact rfl | assumption); (case hd => ktr_room); (case hu => ktr_units))
        intro TT Z6 ow6 om6 h6 tk6 hZ6 hE6 hW6 hM6 hs6 hB6 F6 N6
        rw [hbe] at hB6
        obtain ⟨vD, vo, tv, hTT, hvD, hVD, hvlo⟩ := hB6
        obtain ⟨hq1, hq2, hE6⟩ := hE6
        replace hq1 : ∀ q ∈ Z6, q.1 ≠ L' + 1 + 1 := hq1
        replace hq2 : ∀ q ∈ Z6, q.1 ≠ L' + 1 := hq2
        simp only [List.cons_append] at N6
        have hstp : StpIf := trivial
        k_extra "steps"
        refine Stp.in ?_
        rename_i cV cVd _ F7 N7
        have cVe : cV.data = .cell (some (.ref vD)) := cVd
        clear cVd
        refine @cutX _ _ _ _ _ _ _ _ _ (fun nw => nw = (dW, ow6) :: (mD, om6) :: (L' + 1 + 1, cF) :: (L' + 1, cV) :: (E ++ Z6)) F7 ?_ ?_
        · 
          have hbt : strict = true → b = true := fun e => hb.mpr (hfit e)
          k_extra "steps"
          all_goals first
            | exact absurd (hbt (by assumption)) (by (rename b = false => hbf); rw [hbf]; exact Bool.false_ne_true)
            | exact absurd rfl (by assumption)
            | (rename_i F8 N8; exact CutF.intro F8 N8 _ (fun _ h => h) rfl)
            | exact CutF.intro F7 N7 _ (fun _ h => h) rfl
          
        · rintro h8 tk8 nw F8 N8 rfl
          k_extra "steps"
          refine Stp.in ?_
          rename_i dA _ oD dlo dnil _ _ _ l9 hot9 _ cU F9 N9 cUd
          refine and5 l9 fun k1 k2 k3 k4 _ => ?_
          have hoA : ∀ q ∈ Z6, q.1 ≠ dA := off_appR hot9
          have hoAE : ∀ q ∈ E, q.1 ≠ dA := off_appL hot9
          have cUe : cU.data = .cell (some (.ref dA)) := cUd
          clear cUd
          have hal5 : pvs.length = (assigns R (fitA R lad)).length := hall.len
          have hasl : (assigns R (fitA R lad)).length ≤ 14 := by
            have h1 := spreads_len (specA R (fitA R lad))
            have h3 := specA_len R (fitA R lad)
            unfold assigns
            lia
          have hlp6 : (lp, PySem.W.listOf pvs.toArray np9) ∈ Z6 := hZ6 _ hlp
          refine @listT _ _ _ _ _ _ _ _ _ _ _ (pvs) (np9) _ _ [Str.ofString "name", Str.ofString "value"] (BrtK w dA dW mD (L' + 1 + 1) (L' + 1) ow6 om6 cU cV R (fitA R lad) E Z6) rfl ?_ F9 N9 ?_ ?_ ?_
          · rintro i nw ⟨o, Zi, hZi, _⟩
            have hx := hZi _ hlp6
            k_mem
          · exact ⟨oD, Z6, Ext.refl, hE6, hoA, hW6, hM6, hq1, hq2, [], dnil, .nil⟩
          · 
            rintro i v u n₁ I io h10 tk10 hv ⟨o, Zi, hZi, hEi, z1, z2, z3, z4, z5, hDD⟩ hI F10 N10
            dsimp only [envOf] at F10 N10
            refine off5 hI fun hI1 hI2 hI3 hI4 hI5 hI6 => ?_
            obtain ⟨⟨x, dv⟩, hpl, T0, tx, wv, rfl, hT0, hdv⟩ := hall.get hv
            have hT1 := hZi _ (hZ6 _ hT0)
            have hdv' := hdv.mono (hZ6.trans hZi)
            dsimp only at hT1 hdv'
            have hi9 : i < 14 := by have := (List.getElem?_eq_some_iff.mp hv).1; lia
            have hfl9 : (((assigns R (fitA R lad)).take i).foldl setd []).length ≤ 1000 := by
              have h1 := folds_len ((assigns R (fitA R lad)).take i) []
              rw [List.length_take, List.length_nil, Nat.zero_add] at h1
              exact Nat.le_trans h1 (Nat.le_trans (Nat.min_le_right _ _) (Nat.le_trans hasl (by decide)))
            have hDD0 := hDD
            k_extra "steps"
            · refine Stp.in ?_
              rename_i hbx l0 _ F12 N12 l12 hot12
              refine and7 l12 fun e1 e2 e3 e4 e5 e6 _ => ?_
              have N13 := nsub (news' := (dA, o) :: (I, io) :: (dW, ow6) :: (mD, om6) :: (L' + 1 + 1, cU) :: (L' + 1, cV) :: (E ++ ((l0, PySem.W.listOf #[wv] 0) :: Zi))) N12 (by k_extra "all")
              have y1 := off_appL hot12
              have y2 : ∀ q ∈ E ++ ((l0, PySem.W.listOf #[wv] 0) :: Zi), q.1 ≠ dA := off_join hoAE (off_cons (by dsimp only; lia) z1)
              k_dflt (refine' dd_set (Z := (l0, PySem.W.listOf #[wv] 0) :: Zi) F12 N13 ?U (hDD.mono Ext.refl.cons) hfl9 hbx ⟨rfl, l0, 0, wv, rfl, List.mem_cons_self, hdv'.mono Ext.refl.cons⟩ ?_; (case U => k_updF); k_whole)
              intro h13 o13 hDD13 F13 N13'
              try dsimp only at N13'
              k_extra "steps"
              exact turnT F13 N13' (fun y hy => by simp only [List.contains_cons, List.contains_nil, Bool.or_false, Bool.or_eq_false_iff, beq_eq_false_iff_ne, ne_eq] at hy; simp [hy]) ((dA, o13) :: (dW, ow6) :: (mD, om6) :: (L' + 1 + 1, cU) :: (L' + 1, cV) :: (E ++ ((l0, PySem.W.listOf #[wv] 0) :: Zi))) (by k_extra "all") (off_cons hI1 (off_cons hI2 (off_cons hI3 (off_cons hI4 (off_cons hI5 (off_join (off_appL hI6) (off_cons (by dsimp only; lia) (off_appR hI6))))))))
                ⟨o13, _, hZi.cons, offAll_cons hEi y1, off_cons (by dsimp only; lia) z1, off_cons (by dsimp only; lia) z2, off_cons (by dsimp only; lia) z3, off_cons (by dsimp only; lia) z4, off_cons (by dsimp only; lia) z5, by
                  rw [take_snoc hpl, List.foldl_append, List.foldl_cons, List.foldl_nil, setd_any (p := (x, dv)) hbx, if_neg Bool.false_ne_true]; exact hDD13⟩
            · rename_i Fq Nq _ hbx
              exact turnT Fq Nq (fun y hy => by simp only [List.contains_cons, List.contains_nil, Bool.or_false, Bool.or_eq_false_iff, beq_eq_false_iff_ne, ne_eq] at hy; simp [hy]) ((dA, o) :: (dW, ow6) :: (mD, om6) :: (L' + 1 + 1, cU) :: (L' + 1, cV) :: (E ++ Zi)) (by k_extra "all") (off_cons hI1 (off_cons hI2 (off_cons hI3 (off_cons hI4 (off_cons hI5 hI6)))))
                ⟨o, _, hZi, hEi, z1, z2, z3, z4, z5, by
                  rw [take_snoc hpl, List.foldl_append, List.foldl_cons, List.foldl_nil, setd_any (p := (x, dv)) hbx, if_pos rfl]; exact hDD⟩
            
          · --C{
            rintro u n₁ h11 tk11 ⟨o, Zi, hZi, hEi, z1, z2, z3, z4, z5, hDD⟩ F11 N11
            rw [hal5, List.take_length] at hDD
            dsimp only [envOf] at F11 N11
            change DD w Zi o (fs [] (specA R (fitA R lad))) at hDD
            have hl14 : (fs [] (specA R (fitA R lad))).length ≤ 14 := by
              have h1 := folds_len (assigns R (fitA R lad)) []
              simp only [List.length_nil] at h1
              exact Nat.le_trans h1 (by lia)
            generalize hl0 : fs [] (specA R (fitA R lad)) = l0 at *
            obtain ⟨ka, hka, haV⟩ := hVD
            obtain ⟨kb, hkb, hbD⟩ := hDD
            have haV' := haV.mono (VP.mono hZi)
            have hvD' := hZi _ hvD
            have hkal : ka.length ≤ 14 := by rw [haV.len]; exact hl14
            have hkbl : kb.length ≤ 14 := by rw [hbD.len]; exact hl14
            have hstq : StpQ := trivial
            have hstl : StpL := trivial
            k_extra "steps"
            refine Stp.in ?_
            rename_i B1 _ _ vs1 ss1 e1 _ _ S1 P1 O1 m1 t1 B2 _ _ vs2 ss2 e2 F12 N12 S2 P2 O2 m2 t2
            have hk9 : ka.map (·.1) = kb.map (·.1) := (all2_keysV haV).trans (all2_keysD hbD).symm
            rw [hk9] at P1
            have hss : ss1 = ss2 := sortedS_eq (P1.trans P2.symm) O1 O2
            subst hss
            k_dflt (refine' eq_strs ?N ?ma ?mb S1 S2 ?hu ?_; (case N => k_asm); (case ma => k_mem); (case mb => k_mem); (case hu => ktr_units); k_whole)
            k_extra "steps"
            refine Stp.in ?_
            k_dflt (refine ListComp_D (knd := PySem.strKind PG w) (F₀ := by k_asm) (by with_unfolding_all rfl) (by decide) (by rfl) (by decide) (by rfl) ?_)
            k_extra "steps"
            refine Stp.in ?_
            refine ⟨dA, o, kb, (dA, o) :: (dW, ow6) :: (mD, om6) :: (L' + 1 + 1, cU) :: (L' + 1, cV) :: (E ++ Zi), rfl, rfl, F12, nsub N12 (by k_extra "all"), List.mem_cons_self, hkb, dlo, by rw [sizeLine_eq]; lia, ?_⟩
            rintro s₂ ⟨h12, rfl⟩
            refine compZT (fun j ys nw => nw = (dA, o) :: (dW, ow6) :: (mD, om6) :: (L' + 1 + 1, cU) :: (L' + 1, cV) :: (E ++ Zi) ∧ ys = []) (fun _ _ _ h => h.1 ▸ List.mem_cons_self) ?_ ?_ ⟨rfl, rfl⟩
            · rintro j v ys nw I2 oI2 C oC D2 m₂ h13 tk13 E2 hj ⟨k, y, hkj, hkv⟩ ⟨rfl, rfl⟩ hC hx F13 N13 q1 q2 q3 hne9
              obtain ⟨tk9, rfl⟩ := Value.isStrOf_shape hkv
              have hany : kb.any (fun q => decide (q.1 = k)) = true := List.any_eq_true.mpr ⟨_, List.mem_of_getElem? hkj, decide_eq_true rfl⟩
              obtain ⟨v9, li, n9, wv, dv, a1, a2, a3, a4, a5⟩ := both_at haV' hbD hany
              have hg0 : [wv][(0 : Int).toNat]? = some wv := rfl
              replace a4 : (li, PySem.W.listOf [wv].toArray n9) ∈ Zi := a4
              k_extra "steps"
              rename_i F14 N14
              exact CZ.intro F14 N14 _ (by k_extra "all") q1 q2 q3 ⟨rfl, rfl⟩
            · rintro ys nw ⟨rfl, rfl⟩
              refine finE ?_
              intro D' h' tk' F' N' o1
              k_extra "steps"
              rename_i kF kN _ _
              exact hret Zi ow6 om6 _ _ ((hZZ5.trans hZ6).trans hZi) hEi z2 z3 (hs6.mono hZi (Nat.le_refl _)) kF (nsub kN (by k_extra "all"))
end
end
section
def GrpC (w : World) (k : Nat) (P : Led → Value → List Str → Prop) : Prop := ∀ {p : Program} {loose : List Str} {mean : ExcName → Option Value} {mg mb : Str → Option Value} {dp un : Nat} {gd : Option (List Code)} {cn : Str} {cs : Scope} {a : Addr} {ccd : Value} {cl : List (Str × Addr)} {outer : List Env} {A₀ : Around} {base h₀ : Heap} {L : Addr} {m : Str → Option Value} {s : Shared} {Q E' : Value → Shared → Prop} {v : Value} {ss : List Str} {Z E news : Led},
  Below A₀ base outer h₀ → Fr h₀ L s.heap m → (hd.heap_39 w.params).In h₀ → Top p loose mean mg mb h₀ → cs.kind = .function → dp + k < recursionLimit → un + 8 * k < cLine → News h₀ L s.heap news → Spl Z news E → OffAll E Z → P Z v ss →
  (∀ lf vs n Z' h' tk', Ext Z Z' → OffAll E Z' → (lf, PySem.W.listOf (vs : List Value).toArray n) ∈ Z' → All2 StrV vs ss → Fr h₀ L h' m → News h₀ L h' (E ++ Z') → Q (.ref lf) { s with heap := h', toks := tk' }) →
  wpAny (model PG w) (ktrTop dp un gd cn cs L a ccd cl outer) (call (.ref 485) [v]) Q E' s
section
variable {w : World} {p : Program} {loose : List Str} {mean : ExcName → Option Value} {mg mb : Str → Option Value} {dp un : Nat} {gd : Option (List Code)} {cn : Str} {cs : Scope} {a : Addr} {ccd : Value} {cl : List (Str × Addr)} {outer : List Env} {A₀ : Around} {base h₀ : Heap} {L : Addr} {m : Str → Option Value} {s : Shared} {Q E' : Value → Shared → Prop}
theorem grp_apply {k : Nat} {P : Led → Value → List Str → Prop} {v : Value} {ss : List Str} {Z E news : Led} (H : GrpC w k P)
    (B : Below A₀ base outer h₀) (F : Fr h₀ L s.heap m) (X : (hd.heap_39 w.params).In h₀) (T : Top p loose mean mg mb h₀) (hk : cs.kind = .function) (hd : dp + k < recursionLimit) (hu : un + 8 * k < cLine)
    (N : News h₀ L s.heap news) (S : Spl Z news E) (hE : OffAll E Z) (hP : P Z v ss)
    (hret : ∀ lf vs n Z' h' tk', Ext Z Z' → OffAll E Z' → (lf, PySem.W.listOf (vs : List Value).toArray n) ∈ Z' → All2 StrV vs ss → Fr h₀ L h' m → News h₀ L h' (E ++ Z') → Q (.ref lf) { s with heap := h', toks := tk' }) :
    wpAny (model PG w) (ktrTop dp un gd cn cs L a ccd cl outer) (call (.ref 485) [v]) Q E' s := H B F X T hk hd hu N S hE hP hret

theorem lines_26 : True := by
  have hpt9 : Pt 29 := trivial
  k_with "own call ref" => ((fail_if_success fail_if_success with_reducible rename Pt 29 => hg9); (k_here; (with_reducible show wpAny _ _ (call (Value.ref 485) [_]) _ _ _); k_dflt (refine @grp_apply _ _ _ _ _ _ _ _ _ _ _ _ _ _ _ _ _ _ _ _ _ _ _ _ _ _ _ _ _ _ (by k_asm) (by k_asm) (by k_asm) (by k_asm) (by k_asm) (by first | exact rfl | assumption) (by ktr_room) (by ktr_units) (by k_asm) (by k_extra "spl") (by k_extra "inv") (by with_reducible assumption) ?_); intro _ _ _ _ _ _ _ _ _ _ _ _; (try dsimp only); (k_extra "oe"); (k_extra "nn"); (try k_sweep)))
  trivial

inductive NamJ (fd : Addr) (sa : List (List Str)) (E Z : Led) (i : Nat) : Led → Prop
  | mk (vs) (nl) (Zi) (c1 : Ext Z Zi) (c2 : OffAll E Zi) (c3 : (∀ q ∈ Zi, q.1 ≠ fd)) (c4 : vs.length ≤ 2 * i) (c5 : All2 StrV vs (sa.take i).flatten) : NamJ fd sa E Z i ((fd, PySem.W.listOf (vs : List Value).toArray nl) :: (E ++ Zi))
inductive NamK (fd : Addr) (vs : List Value) (nl : Nat) (ops : List Str) (E Zi : Led) (j : Nat) (ys : List Value) : Led → Prop
  | mk (c1 : ys.length = j) (c2 : All2 StrV ys (ops.take j)) : NamK fd vs nl ops E Zi j ys ((fd, PySem.W.listOf vs.toArray nl) :: (E ++ Zi))
inductive NamM (fd : Addr) (sa : List (List Str)) (ops : List Str) (re : Option Str) (E Zi : Led) : Led → Prop
  | mk (us) (nu) (c1 : us.length ≤ 10) (c2 : All2 StrV us (sa.flatten ++ ops ++ optNe re)) : NamM fd sa ops re E Zi ((fd, PySem.W.listOf (us : List Value).toArray nu) :: (E ++ Zi))
inductive NamN (fd : Addr) (sa sc : List (List Str)) (ops : List Str) (re : Option Str) (E Zi : Led) (i : Nat) : Led → Prop
  | mk (vs) (nl) (Zj) (c1 : Ext Zi Zj) (c2 : OffAll E Zj) (c3 : (∀ q ∈ Zj, q.1 ≠ fd)) (c4 : vs.length ≤ 10 + 2 * i) (c5 : All2 StrV vs (sa.flatten ++ ops ++ optNe re ++ (sc.take i).flatten)) : NamN fd sa sc ops re E Zi i ((fd, PySem.W.listOf (vs : List Value).toArray nl) :: (E ++ Zj))
theorem names_gen {k : Nat} {P : Led → Value → List Str → Prop} {pa : Addr} {va vb vc : List Value} {rv bv : Value} {sa sc : List (List Str)} {ops : List Str} {re bl : Option Str} {Z E news : Led} (H : GrpC w k P) (hPm : ∀ Z Z' v ss, Ext Z Z' → P Z v ss → P Z' v ss) (hPl : ∀ Z v ss, P Z v ss → ss.length ≤ 2)
    (B : Below A₀ base outer h₀) (F : Fr h₀ L s.heap m) (X : (hd.heap_39 w.params).In h₀) (T : Top p loose mean mg mb h₀) (hk : cs.kind = .function) (hd : dp + (k + 1) < recursionLimit) (hu : un + 8 * (k + 1) < cLine)
    (N : News h₀ L s.heap news) (S : Spl Z news E) (hE : OffAll E Z) (hP : ParAt Z pa va vb rv vc bv) (ha : All2 (P Z) va sa) (hb : All2 (OpV Z) vb ops) (hr : OptV rv re) (hc : All2 (P Z) vc sc) (hv : OptV bv bl) (la : va.length ≤ 2) (lb : vb.length ≤ 2) (lc : vc.length ≤ 2)
    (hret : ∀ lf vs n Z' h' tk', Ext Z Z' → OffAll E Z' → (lf, PySem.W.listOf (vs : List Value).toArray n) ∈ Z' → All2 StrV vs (sa.flatten ++ ops ++ optNe re ++ sc.flatten ++ optL bl) → Fr h₀ L h' m → News h₀ L h' (E ++ Z') → Q (.ref lf) { s with heap := h', toks := tk' }) :
    wpAny (model PG w) (ktrTop dp un gd cn cs L a ccd cl outer) (call (.ref 490) [.ref pa]) Q E' s := by
  have hpt9 : Pt 29 := trivial
  have N1 : News h₀ L s.heap (E ++ Z) := S.eq ▸ N
  clear N S
  obtain ⟨dx, lr, lo, lp, nr, no, np, es, n, p1, p2, ⟨q1, q2, q3, q4, q5, t1, t2, t3, t4, t5, rfl⟩, p4, p5, p6⟩ := hP
  refine @wpAny_call _ _ _ _ _ _ _ _ ?_
  k_dflt k_extra "enterC"
  k_extra "steps"
  refine Stp.in ?_
  rename_i fd _ lfd _ F1 N1'
  have hotF : ∀ q ∈ E ++ Z, q.1 ≠ fd := fun q hq => Nat.ne_of_lt (lfd q hq)
  have hEf := off_appL hotF
  refine @listZ _ _ _ _ _ _ _ _ _ _ _ (va) (nr) _ _ [] (NamJ fd sa E Z) rfl ?_ F1 N1' ?_ ?_ ?_
  · rintro i n ⟨vs, nl, Zi, hZi, _⟩
    exact by k_mem
  · exact ⟨[], 0, Z, Ext.refl, hE, off_appR hotF, Nat.le_refl _, .nil⟩
  · rintro i v u n₁ I io h tk hv ⟨vs, nl, Zi, hZi, hEi, hofs, hvl, hall⟩ hI F2 N2
    dsimp only [en, envOf] at F2 N2
    refine off1 hI fun hI1 hI2 => ?_
    obtain ⟨ss, hss, hPv⟩ := ha.get hv
    replace hPv := hPm _ _ _ _ hZi hPv
    have hsl := hPl _ _ _ hPv
    have hi2 : i < 2 := by have := (List.getElem?_eq_some_iff.mp hv).1; lia
    k_extra "steps"
    rename_i lf2 ws2 _ Z2 _ _ hZ2 hm2 hA2 aI afd hOE2 _ _ Fq Nq
    have hwl := hA2.len
    refine turnZ Fq Nq (fun y h1 h2 => by simp [h1]) ((fd, _) :: (E ++ Z2)) (by k_extra "all") (off_cons hI1 (off_join (off_appL hI2) aI))
      ⟨_, _, Z2, hZi.trans hZ2, hOE2, afd, by simp only [List.length_append]; lia, by rw [take_flat hss]; exact hall.app hA2⟩
  · rintro u n₁ h tk ⟨vs, nl, Zi, hZi, hEi, hofs, hvl, hall⟩ F2 N2
    dsimp only [en, envOf] at F2 N2
    rw [ha.len, List.take_length] at hall
    k_extra "steps"
    refine Stp.in ?_
    refine LCp.SrcLP.ledger rfl F2 N2 (by k_mem) (by rw [List.size_toArray, sizeLine_eq]; lia) ?_
    intro g
    simp only [List.size_toArray]
    refine compZP (NamK fd vs nl ops E Zi) ?_ ?_ ?_ ?_
    · rintro j ys n ⟨_⟩
      exact .inr ⟨_, by k_mem, rfl, _, rfl⟩
    · rintro j v ys n₁ hj hv2 ⟨hyl, hys⟩
      have hv3 : vb[j]? = some v := by simpa using hv2
      obtain ⟨x, hx, ta, tt, nd, rfl, hta⟩ := hb.get hv3
      refine ⟨ta, _, _, rfl, List.mem_cons_of_mem _ (List.mem_append_right _ (hZi _ hta)), ?_⟩
      intro I2 oI2 C oC D2 m₂ h2 tk2 E2 hC hx1 hx2 F4 N4 o1 o2 o3 hne
      k_extra "steps"
      exact CZ.intro F4 N4 _ (by k_extra "all") o1 o2 o3 ⟨by simp [hyl], by rw [take_snoc hx]; exact hys.snoc ⟨_, rfl⟩⟩
    · rintro ys n₁ ⟨hyl, hys⟩
      refine finE ?_
      intro D' h' tk' F' N' o1
      refine off1 o1 fun o11 o12 => ?_
      rw [hb.len, List.take_length] at hys
      have hstp : StpIf := trivial
      k_extra "steps"
      refine Stp.in ?_
      rename_i n3 F3 N3
      refine @cutX _ _ _ _ _ _ _ _ _ (NamM fd sa ops re E Zi) F3 ?_ ?_
      · cases re with
        | none =>
          cases hr
          k_extra "steps"
          exact CutF.intro (by assumption) N3 _ (by k_extra "all") ⟨_, _, by simp only [List.length_append]; lia, by simpa [optNe] using hall.app hys⟩
        | some x =>
          obtain ⟨tx, rfl⟩ := hr
          k_extra "steps"
          · rename_i hxe _ Fq Nq
            simp only [List.push_toArray] at Nq
            have hxe' : ¬ x = "" := by simpa using hxe
            exact CutF.intro Fq Nq _ (by k_extra "all") ⟨_, _, by simp only [List.length_append, List.length_cons, List.length_nil]; lia, by simp only [optNe, if_neg hxe']; exact (hall.app hys).snoc ⟨_, rfl⟩⟩
          · rename_i hxe
            have hxe' : x = "" := by simpa using hxe
            exact CutF.intro F3 N3 _ (by k_extra "all") ⟨_, _, by simp only [List.length_append]; lia, by simp only [optNe, if_pos hxe', List.append_nil]; exact hall.app hys⟩
      · rintro h4 tk4 n4 F4 N4 ⟨us, nu, hul, hus⟩
        k_extra "steps"
        refine Stp.in ?_
        rename_i F5
        refine @listZ _ _ _ _ _ _ _ _ _ _ _ (vc) (np) _ _ [] (NamN fd sa sc ops re E Zi) rfl ?_ F5 N4 ?_ ?_ ?_
        · rintro i n ⟨vs, nl, Zj, hZj, _⟩
          exact by k_mem
        · exact ⟨us, nu, Zi, Ext.refl, hEi, hofs, by lia, by simpa using hus⟩
        · rintro i v u n₁ I io h tk hv ⟨vs, nl, Zj, hZj, hEj, hofj, hvj, hallj⟩ hI F2 N2
          dsimp only [en, envOf] at F2 N2
          refine off1 hI fun hI1 hI2 => ?_
          obtain ⟨ss, hss, hPv⟩ := hc.get hv
          replace hPv := hPm _ _ _ _ (hZi.trans hZj) hPv
          have hsl := hPl _ _ _ hPv
          have hi2 : i < 2 := by have := (List.getElem?_eq_some_iff.mp hv).1; lia
          k_extra "steps"
          rename_i lf2 ws2 _ Z2 _ _ hZ2 hm2 hA2 aI afd hOE2 _ _ Fq Nq
          have hwl := hA2.len
          refine turnZ Fq Nq (fun y h1 h2 => by simp [h1]) ((fd, _) :: (E ++ Z2)) (by k_extra "all") (off_cons hI1 (off_join (off_appL hI2) aI))
            ⟨_, _, Z2, hZj.trans hZ2, hOE2, afd, by simp only [List.length_append]; lia, by rw [take_flat hss, ← List.append_assoc]; exact hallj.app hA2⟩
        · rintro u n₁ h tk ⟨vs, nl, Zj, hZj, hEj, hofj, hvj, hallj⟩ F2 N2
          dsimp only [en, envOf] at F2 N2
          rw [hc.len, List.take_length] at hallj
          cases bl with
          | none =>
            cases hv
            k_extra "steps"
            rename_i kF kN _ _
            exact hret fd vs nl ((fd, _) :: Zj) _ _ (hZi.trans hZj).cons (offAll_cons hEj hEf) List.mem_cons_self (by simpa [optL] using hallj) kF (nsub kN (by k_extra "all"))
          | some x =>
            obtain ⟨tx, rfl⟩ := hv
            k_extra "steps"
            rename_i kF kN _ _
            simp only [List.push_toArray] at kN
            exact hret fd (vs ++ [Value.str x tx]) (nl + 1) ((fd, PySem.W.listOf (vs ++ [Value.str x tx]).toArray (nl + 1)) :: Zj) _ _ (hZi.trans hZj).cons (offAll_cons hEj hEf) List.mem_cons_self (by simp only [optL]; exact hallj.snoc ⟨_, rfl⟩) kF (nsub kN (by k_extra "all"))
    · exact ⟨rfl, .nil⟩

inductive PStr (Z : Led) (v : Value) (ss : List Str) : Prop
  | mk (x : Str) (t : Tok) (e : v = .str x t) (s : ss = [x])
inductive PPlN (Z : Led) (v : Value) (ss : List Str) : Prop
  | mk (pl : Pl) (h : PPl Z v pl) (s : ss = plNames pl)
end
theorem lines_27 : True := by
  k_with "own call builtin:isinstance" => ((fail_if_success fail_if_success with_reducible rename Pt 29 => hg9); (k_here; (with_reducible show wpAny _ _ (call _ [Value.str _ _, Value.ref 198]) _ _ _); k_dflt (refine @isn_sP _ _ _ _ _ _ _ (by k_in) ?_; k_whole)))
  k_with "own call builtin:isinstance" => ((fail_if_success fail_if_success with_reducible rename Pt 29 => hg9); (k_here; (with_reducible show wpAny _ _ (call _ [Value.ref _, Value.ref 198]) _ _ _); k_dflt (refine @isi_P _ _ _ _ _ _ _ _ (by k_in) (InstAt.of_news (by k_asm) (by k_mem) (by k_mem)) ?_; k_whole)))
  trivial
section
variable {w : World} {p : Program} {loose : List Str} {mean : ExcName → Option Value} {mg mb : Str → Option Value} {dp un : Nat} {gd : Option (List Code)} {cn : Str} {cs : Scope} {a : Addr} {ccd : Value} {cl : List (Str × Addr)} {outer : List Env} {A₀ : Around} {base h₀ : Heap} {L : Addr} {m : Str → Option Value} {s : Shared} {Q E' : Value → Shared → Prop}
theorem grp_str {v : Value} {ss : List Str} {Z E news : Led}
    (B : Below A₀ base outer h₀) (F : Fr h₀ L s.heap m) (X : (hd.heap_39 w.params).In h₀) (T : Top p loose mean mg mb h₀) (hk : cs.kind = .function) (hd : dp + 1 < recursionLimit) (hu : un + 8 < cLine)
    (N : News h₀ L s.heap news) (S : Spl Z news E) (hE : OffAll E Z) (hP : PStr Z v ss)
    (hret : ∀ lf vs n Z' h' tk', Ext Z Z' → OffAll E Z' → (lf, PySem.W.listOf (vs : List Value).toArray n) ∈ Z' → All2 StrV vs ss → Fr h₀ L h' m → News h₀ L h' (E ++ Z') → Q (.ref lf) { s with heap := h', toks := tk' }) :
    wpAny (model PG w) (ktrTop dp un gd cn cs L a ccd cl outer) (call (.ref 485) [v]) Q E' s := by
  have hpt9 : Pt 29 := trivial
  have N1 : News h₀ L s.heap (E ++ Z) := S.eq ▸ N
  clear N S
  obtain ⟨x, t, rfl, rfl⟩ := hP
  refine @wpAny_call _ _ _ _ _ _ _ _ ?_
  k_dflt k_extra "enterC"
  k_extra "steps"
  rename_i l0 _ _ _ lq kF kN _ _
  have hl0 : ∀ q ∈ E ++ Z, q.1 ≠ l0 := fun q hq => Nat.ne_of_lt (lq q hq)
  exact hret l0 [.str x t] 0 ((l0, PySem.W.listOf [Value.str x t].toArray 0) :: Z) _ _ Ext.refl.cons (offAll_cons hE (off_appL hl0)) List.mem_cons_self (.cons ⟨_, rfl⟩ .nil) kF (nsub kN (by k_extra "all"))
theorem grpC_str : GrpC w 1 PStr := fun {_ _ _ _ _ _ _ _ _ _ _ _ _ _ _ _ _ _ _ _ _ _ _ _ _ _ _} B F X T hk hd hu N S hE hP hret => grp_str B F X T hk hd hu N S hE hP hret

theorem PStr.pl (Z : Led) (v : Value) (ss : List Str) (h : PStr Z v ss) : ss.length ≤ 2 := by
  obtain ⟨x, t, _, rfl⟩ := h; exact Nat.le_succ 1
theorem PPlN.pl (Z : Led) (v : Value) (ss : List Str) (h : PPlN Z v ss) : ss.length ≤ 2 := by
  obtain ⟨pl, _, rfl⟩ := h; cases pl <;> simp [plNames]
theorem PPlN.mono' (Z Z' : Led) (v : Value) (ss : List Str) (e : Ext Z Z') (h : PPlN Z v ss) : PPlN Z' v ss := by
  obtain ⟨pl, h, rfl⟩ := h; exact ⟨pl, h.mono e _ _, rfl⟩
theorem gnames_use {ga : Addr} {x y : Str} {t u : Tok} {Z E news : Led}
    (B : Below A₀ base outer h₀) (F : Fr h₀ L s.heap m) (X : (hd.heap_39 w.params).In h₀) (T : Top p loose mean mg mb h₀) (hk : cs.kind = .function) (hd : dp + 2 < recursionLimit) (hu : un + 16 < cLine)
    (N : News h₀ L s.heap news) (S : Spl Z news E) (hE : OffAll E Z) (hP : ParAt Z ga [.str x t, .str y u] [] .none [] .none)
    (hret : ∀ lf vs n Z' h' tk', Ext Z Z' → OffAll E Z' → (lf, PySem.W.listOf (vs : List Value).toArray n) ∈ Z' → All2 StrV vs [x, y] → Fr h₀ L h' m → News h₀ L h' (E ++ Z') → Q (.ref lf) { s with heap := h', toks := tk' }) :
    wpAny (model PG w) (ktrTop dp un gd cn cs L a ccd cl outer) (call (.ref 490) [.ref ga]) Q E' s :=
  names_gen (sa := [[x], [y]]) (ops := []) (re := none) (sc := []) (bl := none) grpC_str (fun _ _ _ _ _ ⟨x, t, e, s⟩ => ⟨x, t, e, s⟩) PStr.pl B F X T hk (by lia) (by lia) N S hE hP (.cons ⟨x, t, rfl, rfl⟩ (.cons ⟨y, u, rfl, rfl⟩ .nil)) .nil rfl .nil rfl (Nat.le_refl _) (Nat.zero_le _) (Nat.zero_le _) hret
theorem lines_28 : True := by
  have hpt9 : Pt 29 := trivial
  k_with "own call ref" => ((fail_if_success fail_if_success with_reducible rename Pt 29 => hg9); (k_here; (with_reducible show wpAny _ _ (call (Value.ref 490) [_]) _ _ _); k_dflt (refine @gnames_use _ _ _ _ _ _ _ _ _ _ _ _ _ _ _ _ _ _ _ _ _ _ _ _ _ _ _ _ _ _ _ (by k_asm) (by k_asm) (by k_asm) (by k_asm) (by first | exact rfl | assumption) (by ktr_room) (by ktr_units) (by k_asm) (by k_extra "spl") (by k_extra "inv") (by with_reducible assumption) ?_); intro _ _ _ _ _ _ _ _ _ _ _ _; (try dsimp only); (k_extra "oe"); (k_extra "nn"); (try k_sweep)))
  trivial
theorem grp_pl {v : Value} {ss : List Str} {Z E news : Led}
    (B : Below A₀ base outer h₀) (F : Fr h₀ L s.heap m) (X : (hd.heap_39 w.params).In h₀) (T : Top p loose mean mg mb h₀) (hk : cs.kind = .function) (hd : dp + 3 < recursionLimit) (hu : un + 24 < cLine)
    (N : News h₀ L s.heap news) (S : Spl Z news E) (hE : OffAll E Z) (hP : PPlN Z v ss)
    (hret : ∀ lf vs n Z' h' tk', Ext Z Z' → OffAll E Z' → (lf, PySem.W.listOf (vs : List Value).toArray n) ∈ Z' → All2 StrV vs ss → Fr h₀ L h' m → News h₀ L h' (E ++ Z') → Q (.ref lf) { s with heap := h', toks := tk' }) :
    wpAny (model PG w) (ktrTop dp un gd cn cs L a ccd cl outer) (call (.ref 485) [v]) Q E' s := by
  have hpt9 : Pt 29 := trivial
  obtain ⟨pl, hv, rfl⟩ := hP
  cases pl with
  | nm x =>
    obtain ⟨t, rfl⟩ := hv
    exact @grp_str _ _ _ _ _ _ _ _ _ _ _ _ _ _ _ _ _ _ _ _ _ _ _ _ _ _ _ _ B F X T hk (by lia) (by lia) N S hE ⟨x, t, rfl, rfl⟩ hret
  | gp x y =>
    obtain ⟨ga, t, u, rfl, hga⟩ := hv
    have N1 : News h₀ L s.heap (E ++ Z) := S.eq ▸ N
    clear N S
    have hga' := hga
    obtain ⟨dx, lr, lo, lp, nr, no, np, es, n, p1, p2, _⟩ := hga'
    refine @wpAny_call _ _ _ _ _ _ _ _ ?_
    k_dflt k_extra "enterC"
    k_extra "steps"
    rename_i lf2 ws2 n2 Z2 _ _ hZ2 hOE2 hm2 hA2 _ _ kF kN _ _
    exact hret lf2 ws2 n2 Z2 _ _ hZ2 hOE2 hm2 hA2 kF kN
theorem grpC_pl : GrpC w 3 PPlN := fun {_ _ _ _ _ _ _ _ _ _ _ _ _ _ _ _ _ _ _ _ _ _ _ _ _ _ _} B F X T hk hd hu N S hE hP hret => grp_pl B F X T hk hd hu N S hE hP hret
theorem All2.toN {Z : Led} {vs : List Value} {pls : List Pl} (h : All2 (PPl Z) vs pls) : All2 (PPlN Z) vs (pls.map plNames) := by
  induction h with
  | nil => exact .nil
  | cons h _ ih => exact .cons ⟨_, h, rfl⟩ ih
theorem names_use {pa : Addr} {R : Row} {Z E news : Led}
    (B : Below A₀ base outer h₀) (F : Fr h₀ L s.heap m) (X : (hd.heap_39 w.params).In h₀) (T : Top p loose mean mg mb h₀) (hk : cs.kind = .function) (hd : dp + 4 < recursionLimit) (hu : un + 32 < cLine)
    (N : News h₀ L s.heap news) (S : Spl Z news E) (hE : OffAll E Z) (hP : MadeAt Z pa R)
    (hret : ∀ lf vs n Z' h' tk', Ext Z Z' → OffAll E Z' → (lf, PySem.W.listOf (vs : List Value).toArray n) ∈ Z' → All2 StrV vs (namesOf R) → Fr h₀ L h' m → News h₀ L h' (E ++ Z') → Q (.ref lf) { s with heap := h', toks := tk' }) :
    wpAny (model PG w) (ktrTop dp un gd cn cs L a ccd cl outer) (call (.ref 490) [.ref pa]) Q E' s := by
  obtain ⟨va, vb, rv, vc, bv, h1, h2, h3, h4, h5, h6, h7, h8, h9⟩ := hP
  refine @names_gen _ _ _ _ _ _ _ _ _ _ _ _ _ _ _ _ _ _ _ _ _ _ _ _ _ _ _ _ _ _ _ _ _ _ _ _ _ _ _ grpC_pl PPlN.mono' PPlN.pl B F X T hk hd hu N S hE h1 h2.toN h3 h4 h5.toN h6 (by rw [h2.len]; exact h7) (by rw [h3.len]; exact h8) (by rw [h5.len]; exact h9) ?_
  intro lf vs n Z' h' tk' a1 a2 a3 a4 a5 a6
  exact hret lf vs n Z' h' tk' a1 a2 a3 (by simpa only [namesOf, List.flatMap_def] using a4) a5 a6
end
end
section
def StpM : Prop := True
theorem strs_mem {vs : List Value} {ss : List Str} {y : Str} {t : Tok} (h : StrsAre vs ss) (hm : Value.str y t ∈ vs) : y ∈ ss := by
  induction h with
  | nil => cases hm
  | cons k u _ ih =>
    rcases List.mem_cons.mp hm with e | hm
    · cases e; exact List.mem_cons_self
    · exact List.mem_cons_of_mem _ (ih hm)
theorem getL_any {es : List DictEntry} {y z : Str} (h : getL y es = some none) : (getL z es).isSome = true := by
  unfold getL at h ⊢
  cases e : es.find? (·.key.isStr y) with
  | some q => rw [e] at h; cases h
  | none =>
    rw [e] at h
    dsimp only at h
    cases e2 : es.find? (·.key.isStr z) with
    | some q => rfl
    | none =>
      dsimp only
      split at h
      · cases h
      · rename_i hn
        rw [if_neg hn]; rfl
theorem putL_len_le {name : Str} {hsh : Int} {key v : Value} : ∀ es : List DictEntry, (putL name hsh key v es).length ≤ es.length + 1
  | [] => by simp [putL]
  | e :: r => by
    unfold putL
    by_cases h : e.key.isStr name = true
    · rw [if_pos h]; simp
    · rw [if_neg h]; simp only [List.length_cons]; have := putL_len_le (name := name) (hsh := hsh) (key := key) (v := v) r; lia
def WKm (es : List DictEntry) (mD nat pre : Addr) : Prop := ∃ es0, WK es0 mD nat pre false ∧ es.length ≤ 100 ∧ ∀ y, Str.ofString "main" ≠ y → getL y es = getL y es0
theorem WKm.ready {es : List DictEntry} {mD nat pre : Addr} (h : WKm es mD nat pre) (hsh : Int) (t : Tok) : WK (putL (Str.ofString "is_ready") hsh (.str (Str.ofString "is_ready") t) (.bool true) es) mD nat pre true := by
  obtain ⟨es0, ⟨⟨k0, t0, h0⟩, h1, h2, h3, h4, h5, h6, h7, h8, h9, h10, h11, h12, h13⟩, hl, hg⟩ := h
  refine ⟨⟨k0, t0, ?_⟩, ?_, ?_, ?_, ?_, ?_, ?_, ?_, ?_, ?_, ?_, ?_, ?_, ?_⟩
  case refine_5 => exact getL_put es
  case refine_14 =>
    rw [if_pos rfl, putL_len_eq es ((hg _ (by decide)).trans h4)]
    exact hl
  all_goals (rw [getL_put_ne (by decide), hg _ (by decide)]; assumption)
section
variable {prog : Program} {w : World} {A A₀ : Around} {E : Value → Shared → Prop} {s : Shared} {K : Frag} {x C dx L : Addr} {h₀ : Heap} {m : Str → Option Value} {news : List (Addr × Obj)} {es : List DictEntry} {n : Nat} {v : Value} {g : Obj → Led} {mD nat pr : Addr}
theorem set_main {Q : Unit → Shared → Prop} (F : Fr h₀ L s.heap m) (X₀ : K.In h₀) (N : News h₀ L s.heap news) (h1 : (x, instObj C dx) ∈ news) (U : UpdF dx (dictOf es n) news g) (W : WK es mD nat pr false)
    (hs : findIn K (.ref C) "__setattr__" = some (some (.builtin "object.__setattr__"))) (hp : plainOver K C = true) (ht : takerIn K C (Str.ofString "main") = some none) (hh : hasDictIn K C = true)
    (h : ∀ h' es' n', WKm es' mD nat pr → Fr h₀ L h' m → News h₀ L h' (g (dictOf es' n')) → Q () { s with heap := h', toks := s.toks + 2 }) :
    wpAny (model prog w) A (setAttr (.ref x) (Str.ofString "main") v) Q E s := by
  obtain ⟨pre, post, rfl, hg, a, b⟩ := U.split
  have hl := putL_len_le (name := Str.ofString "main") (hsh := PyData.keyHash w.params (Str.ofString "main")) (key := .str (Str.ofString "main") (s.toks + 1)) (v := v) es
  have hl0 := W.len0
  simp only [Bool.false_eq_true, if_false] at hl0
  exact set_dict F X₀ N (InstAt.of_news N h1 (List.mem_append_right _ List.mem_cons_self)) rfl hs hp ht hh (getL_any W.m1) rfl (upd_of a b) (by lia) fun h' F' N' => h h' _ _ ⟨es, W, by lia, fun y hy => getL_put_ne hy _⟩ F' (hg _ ▸ N')
theorem set_ready {Q : Unit → Shared → Prop} (F : Fr h₀ L s.heap m) (X₀ : K.In h₀) (N : News h₀ L s.heap news) (h1 : (x, instObj C dx) ∈ news) (U : UpdF dx (dictOf es n) news g) (W : WKm es mD nat pr)
    (hs : findIn K (.ref C) "__setattr__" = some (some (.builtin "object.__setattr__"))) (hp : plainOver K C = true) (ht : takerIn K C (Str.ofString "is_ready") = some none) (hh : hasDictIn K C = true)
    (h : ∀ h' es' n', WK es' mD nat pr true → Fr h₀ L h' m → News h₀ L h' (g (dictOf es' n')) → Q () { s with heap := h', toks := s.toks + 2 }) :
    wpAny (model prog w) A (setAttr (.ref x) (Str.ofString "is_ready") (.bool true)) Q E s := by
  obtain ⟨pre, post, rfl, hg, a, b⟩ := U.split
  have W' := W.ready (PyData.keyHash w.params (Str.ofString "is_ready")) (s.toks + 1)
  obtain ⟨es0, W0, _, hq⟩ := id W
  exact set_dict F X₀ N (InstAt.of_news N h1 (List.mem_append_right _ List.mem_cons_self)) rfl hs hp ht hh (by rw [hq _ (by decide), W0.rdy]; rfl) rfl (upd_of a b) (Nat.le_trans W'.len (by decide)) fun h' F' N' => h h' _ _ W' F' (hg _ ▸ N')
end
theorem lines_29 : True := by
  k_with "own getMethod ref" => ((fail_if_success fail_if_success with_reducible rename Pt 30 => hg9); (k_here; (with_reducible show wpAny _ _ (getMethod (Value.ref _) (Str.ofString "number") _) _ _ _); (with_reducible rename StpM => hstp9); clear hstp9; refine Stp.out ?_))
  k_with "units" => ((fail_if_success fail_if_success with_reducible rename Pt 30 => hg9); ((simp only [units_under_make, units_in1, units_deeper]); (try dsimp only [ktrTop]); have hcL9 := cLine_is; lia))
  k_with "own call ref" => ((fail_if_success fail_if_success with_reducible rename Pt 30 => hg9); (k_here; (with_reducible show wpAny _ _ (call (Value.ref 219) [_, _]) _ _ _); refine Stp.out ?_))
  k_with "own call type:list" => ((fail_if_success fail_if_success with_reducible rename Pt 30 => hg9); (k_here; (with_reducible show wpAny _ _ (call _ [Value.ref _]) _ _ _); refine Stp.out ?_))
  k_with "own setAttr ref" => ((fail_if_success fail_if_success with_reducible rename Pt 30 => hg9); (k_here; (with_reducible show wpAny _ _ (setAttr (Value.ref _) (Str.ofString "main") _) _ _ _); refine Stp.out ?_))
  k_with "own setAttr ref" => ((fail_if_success fail_if_success with_reducible rename Pt 30 => hg9); (k_here; (with_reducible show wpAny _ _ (setAttr (Value.ref _) (Str.ofString "is_ready") (Value.bool true)) _ _ _); refine Stp.out ?_))
  k_with "own binaryOp Add str str" => ((fail_if_success fail_if_success with_reducible rename Pt 30 => hg9); (k_here; k_dflt (refine @add_str _ _ _ _ _ _ _ _ _ _ ?_ (by (rw [sizeLine_eq, show (Str.ofString ".").length = 1 from rfl]; lia))); intro _ _))
  trivial
section
variable {w : World} {p : Program} {loose : List Str} {mean : ExcName → Option Value} {mg mb : Str → Option Value} {dp un : Nat} {gd : Option (List Code)} {cn : Str} {cs : Scope} {a : Addr} {ccd : Value} {cl : List (Str × Addr)} {outer : List Env} {A₀ : Around} {base h₀ : Heap} {L : Addr} {m : Str → Option Value} {s : Shared} {Q E' : Value → Shared → Prop}
theorem new_use {nt : Addr} {on : Obj} {Z E news : Led}
    (B : Below A₀ base outer h₀) (F : Fr h₀ L s.heap m) (X : (hd.heap_39 w.params).In h₀) (T : Top p loose mean mg mb h₀) (hk : cs.kind = .function) (hd : dp + 100 < recursionLimit) (hu : un + 5000 < cLine)
    (N : News h₀ L s.heap news) (S : Spl Z news E) (hE : OffAll E Z) (hn1 : (nt, on) ∈ Z) (hn2 : on.IsDictOf (PySem.strKind PG w) []) (hn3 : (nt == sysModules) = false)
    (hret : ∀ W dW mD ow om Z' h' tk', Ext Z Z' → OffAll E Z' → @Ne Nat dW mD → (∀ q ∈ E ++ Z', q.1 ≠ dW) → (∀ q ∈ E ++ Z', q.1 ≠ mD) → WSt w Z' W dW mD ow om true 41 → Fr h₀ L h' m → News h₀ L h' ((dW, ow) :: (mD, om) :: (E ++ Z')) → Q (.ref W) { s with heap := h', toks := tk' }) :
    wpAny (model PG w) (ktrTop dp un gd cn cs L a ccd cl outer) (call (.ref 842) [.ref nt]) Q E' s := by
  have hp19 : Pt 1 := trivial
  have hp29 : Pt 2 := trivial
  have hpt9 : Pt 30 := trivial
  have e := S.eq
  subst e
  clear S
  have hstp : StpM := trivial
  k_dflt k_extra "cb"
  k_extra "steps"
  refine Stp.in ?_
  rename_i x0 d4 _ _ _ l5 l2 g1 L1 _ FG B1 X1 T1 _ d3 _ o3 lo3 hs3 _ _ _ l4 hot4 _ _ _ _ _ _ d2 _ o2 _ _ _ _ _ l3 hot3 _ d1 _ o1 lo1 hs1 _ _ _ lm2 hot2 _ _ _ d0 _ o0 _ _ _ _ _ lm1 hot1 _ ll _ lm0 hot0 _ _ _ F9 N9
  refine and7 lm0 fun a1 a2 a3 a4 a5 a6 _ => ?_
  refine and6 lm1 fun b1 b2 b3 b4 b5 _ => ?_
  refine and5 lm2 fun c1 c2 c3 c4 _ => ?_
  refine and4 l3 fun e1 e2 e3 _ => ?_
  refine and3 l4 fun f1 f2 _ => ?_
  have hd4 : ∀ q ∈ E ++ Z, q.1 ≠ d4 := fun q hq => Nat.ne_of_lt (l5 q hq)
  have hx0 : ∀ q ∈ E ++ Z, q.1 ≠ x0 := fun q hq => Nat.ne_of_lt (Nat.lt_trans (l5 q hq) l2)
  have hne : @Ne Nat d4 d1 := by lia
  have hw : ∃ ow, WSt w ((d3, o3) :: (d2, o2) :: (d0, o0) :: (ll, PySem.W.listOf #[] 0) :: (x0, instObj 842 d4) :: Z) x0 d4 d1 ow o1 false 41 ∧ News g1 L1 _ ((d4, ow) :: (d1, o1) :: (E ++ ((d3, o3) :: (d2, o2) :: (d0, o0) :: (ll, PySem.W.listOf #[] 0) :: (x0, instObj 842 d4) :: Z))) :=
    ⟨_, ⟨by k_mem, ⟨_, _, nt, d3, rfl, ⟨⟨_, _, rfl⟩, rfl, rfl, rfl, rfl, rfl, rfl, rfl, rfl, rfl, rfl, rfl, rfl, Nat.le_of_ble_eq_true rfl⟩, ⟨hn3, lo3, ⟨on, by k_mem, hn2⟩, ⟨o3, by k_mem, hs3⟩⟩⟩, ⟨[], hs1, MK.nil, Nat.le_of_ble_eq_true rfl⟩, lo1⟩, nsub N9 (by k_extra "all")⟩
  obtain ⟨ow, hw, N10⟩ := hw
  clear N9
  have hE1 : OffAll E ((d3, o3) :: (d2, o2) :: (d0, o0) :: (ll, PySem.W.listOf #[] 0) :: (x0, instObj 842 d4) :: Z) := offAll_cons (offAll_cons (offAll_cons (offAll_cons (offAll_cons hE (off_app hx0).1) (off_appL hot0)) (off_appL hot1)) (off_appL hot3)) (off_appL hot4)
  have hoW : ∀ q ∈ E ++ ((d3, o3) :: (d2, o2) :: (d0, o0) :: (ll, PySem.W.listOf #[] 0) :: (x0, instObj 842 d4) :: Z), q.1 ≠ d4 := off_join (off_appL hd4) (off_cons (by dsimp only; lia) (off_cons (by dsimp only; lia) (off_cons (by dsimp only; lia) (off_cons (by dsimp only; lia) (off_cons (by dsimp only; lia) (off_appR hd4))))))
  have hoM : ∀ q ∈ E ++ ((d3, o3) :: (d2, o2) :: (d0, o0) :: (ll, PySem.W.listOf #[] 0) :: (x0, instObj 842 d4) :: Z), q.1 ≠ d1 := off_join (off_appL hot2) (off_cons (by dsimp only; lia) (off_cons (by dsimp only; lia) (off_cons (by dsimp only; lia) (off_cons (by dsimp only; lia) (off_cons (by dsimp only; lia) (off_appR hot2))))))
  generalize hZ1 : ((d3, o3) :: (d2, o2) :: (d0, o0) :: (ll, PySem.W.listOf #[] 0) :: (x0, instObj 842 d4) :: Z : Led) = Z1 at *
  have hZZ : Ext Z Z1 := by rw [← hZ1]; exact Ext.refl.cons.cons.cons.cons.cons
  k_extra "steps"
  refine Stp.in ?_
  refine Stp.in ?_
  rename_i k9 t9 _ _ _ x9 Z9 ow9 om9 _ _ hZ9 hE9 hW9 hM9 hw9 F10 N11
  k_dflt k_extra "cb"
  k_extra "steps"
  refine Stp.in ?_
  rename_i xT dT _ _ _ lT hotT lT2 _ _ _ _ _ _ _ _ _ dF _ oF _ _ _ _ _ lF hotF _ _ _ _ _ _ kF kN _ _
  obtain ⟨hi9, ⟨es9, nn9, nat9, pr9, rfl, wk9, no9⟩, ⟨kvs, hk1, mk1, ms1⟩, lo9⟩ := hw9
  refine and5 lF fun g1a g1b g1c g1d _ => ?_
  obtain ⟨g2a, g2b, g2c⟩ := lT
  have hne2 : @Ne Nat xT d4 := by lia
  have hW9' : ∀ q ∈ E ++ Z9, q.1 ≠ d4 := off_join (off_appL hd4) hW9
  have hM9' : ∀ q ∈ E ++ Z9, q.1 ≠ d1 := off_join (off_appL hot2) hM9
  k_dflt (refine' set_main ?F ?X ?N ?h1 ?U wk9 ?hs ?hp ?ht ?hh ?_; (case F => exact kF); (case X => exact X1); (case N => exact kN); (case h1 => k_mem); (case U => k_updF); (case hs => k_is); (case hp => k_is); (case ht => k_is); (case hh => k_is); k_whole)
  intro h11 es11 n11 wm11 F11 N11
  try dsimp only at N11
  k_extra "steps"
  refine Stp.in ?_
  k_dflt (refine' set_ready ?F ?X ?N ?h1 ?U wm11 ?hs ?hp ?ht ?hh ?_; (case F => k_asm); (case X => exact X1); (case N => k_asm); (case h1 => k_mem); (case U => k_updF); (case hs => k_is); (case hp => k_is); (case ht => k_is); (case hh => k_is); k_whole)
  intro h12 es12 n12 wk12 F12 N12
  try dsimp only at N12
  have hwr : ∃ oT, WSt w ((dF, oF) :: (xT, instObj 219 dT) :: (dT, oT) :: Z9) x0 d4 d1 (dictOf es12 n12) om9 true 41 ∧ News g1 L1 h12 ((d4, dictOf es12 n12) :: (d1, om9) :: (E ++ ((dF, oF) :: (xT, instObj 219 dT) :: (dT, oT) :: Z9))) :=
    ⟨_, ⟨by k_mem, ⟨es12, n12, nat9, pr9, rfl, wk12, no9.mono Ext.refl.cons.cons.cons⟩, ⟨kvs, hk1, mk1, ms1⟩, lo9⟩, nsub N12 (by k_extra "all")⟩
  obtain ⟨oT, hwr, N13⟩ := hwr
  clear N12 N11
  have hE10 : OffAll E ((dF, oF) :: (xT, instObj 219 dT) :: (dT, oT) :: Z9) := offAll_cons (offAll_cons (offAll_cons hE9 (off_appL hotT)) (fun q hq => Nat.ne_of_lt (Nat.lt_trans (allLt_mem g2c (List.mem_append_left _ hq)) lT2))) (off_appL hotF)
  have hW10 : ∀ q ∈ E ++ ((dF, oF) :: (xT, instObj 219 dT) :: (dT, oT) :: Z9), q.1 ≠ d4 := off_join (off_appL hd4) (off_cons (by dsimp only; lia) (off_cons (by dsimp only; lia) (off_cons (by dsimp only; lia) hW9)))
  have hM10 : ∀ q ∈ E ++ ((dF, oF) :: (xT, instObj 219 dT) :: (dT, oT) :: Z9), q.1 ≠ d1 := off_join (off_appL hot2) (off_cons (by dsimp only; lia) (off_cons (by dsimp only; lia) (off_cons (by dsimp only; lia) hM9)))
  generalize hZ10 : ((dF, oF) :: (xT, instObj 219 dT) :: (dT, oT) :: Z9 : Led) = Z10 at *
  have hZZ10 : Ext Z9 Z10 := by rw [← hZ10]; exact Ext.refl.cons.cons.cons
  k_extra "steps"
  refine Stp.in ?_
  k_dflt (refine' list_dict rfl ?F ?N ?hp hk1 lo9 ?hn ?_; (case F => k_asm); (case N => exact N13); (case hp => k_mem); (case hn => (have hmk9 := mk1.cnt; lia)))
  intro Bl cB h14 tk14 nvs F14 N14 l14 hS
  have no12 := no9.mono hZZ10
  obtain ⟨hnl1, hnl2, ⟨onat, hnm1, hnd1⟩, ⟨opre, hnm2, hnd2⟩⟩ := id no12
  k_lt l14
  k_extra "steps"
  refine Stp.in ?_
  refine @listZ _ _ _ _ _ _ _ _ _ _ _ (nvs) (cB) _ _ [] (fun _ n => n = (d4, dictOf es12 n12) :: (d1, om9) :: (Bl, PySem.W.listOf nvs.toArray cB) :: (E ++ Z10)) rfl ?_ F14 (nsub N14 (by k_extra "all")) rfl ?_ ?_
  · rintro i n rfl
    exact by k_mem
  · rintro i v u nw I io h15 tk15 hv rfl hI F15 N15
    dsimp only [en, envOf] at F15 N15
    refine off3 hI fun hI1 hI2 hI3 hI4 => ?_
    obtain ⟨y, ty, rfl⟩ := hS.all v (List.mem_of_getElem? hv)
    have hy := mk1.lens y (strs_mem hS (List.mem_of_getElem? hv))
    k_extra "steps"
    rename_i Fq Nq _ _
    exact turnZ Fq Nq (fun y h1 h2 => by simp [h1]) ((d4, dictOf es12 n12) :: (d1, om9) :: (Bl, PySem.W.listOf nvs.toArray cB) :: (E ++ Z10)) (by k_extra "all") (off_cons hI1 (off_cons hI2 (off_cons hI3 hI4))) rfl
  · rintro u nw h15 tk15 rfl F15 N15
    dsimp only [en, envOf] at F15 N15
    k_extra "steps"
    rename_i kF kN _ _
    exact hret x0 d4 d1 _ _ Z10 _ _ ((hZZ.trans hZ9).trans hZZ10) hE10 hne hW10 hM10 hwr kF (nsub kN (by k_extra "all"))
end
end
section
def wPls (R : Row) : List Pl := R.fr ++ R.op.map .nm ++ (optNe R.re).map .nm ++ R.ba ++ (optL R.bl).map .nm
theorem wPls_names (R : Row) : (wPls R).flatMap plNames = namesOf R := by
  have h : ∀ l : List Str, (l.map Pl.nm).flatMap plNames = l := by
    intro l
    induction l with
    | nil => rfl
    | cons a l ih => simp [plNames, List.flatMap_cons, ih]
  simp only [wPls, namesOf, List.flatMap_append, h]
section
variable {w : World} {p : Program} {loose : List Str} {mean : ExcName → Option Value} {mg mb : Str → Option Value} {dp un : Nat} {gd : Option (List Code)} {cn : Str} {cs : Scope} {a : Addr} {ccd : Value} {cl : List (Str × Addr)} {outer : List Env} {A₀ : Around} {base h₀ : Heap} {L : Addr} {m : Str → Option Value} {s : Shared} {Q E' : Value → Shared → Prop}
inductive WriJ (fd D1 : Addr) (fv ov : List Value) (re : Option Str) (E Z : Led) : Value → Led → Prop
  | mk (l) (us) (nu) (Zi) (c1 : Ext ((fd, PySem.W.listOf #[] 0) :: (D1, PySem.W.listOf (fv ++ ov).toArray 0) :: Z) Zi) (c2 : OffAll E Zi) (c3 : (l, PySem.W.listOf (us : List Value).toArray nu) ∈ Zi) (c4 : us.length ≤ 1) (c5 : All2 StrV us (optNe re)) : WriJ fd D1 fv ov re E Z (.ref l) (E ++ Zi)
inductive WriK (D4 D3 : Addr) (fv ov us bv : List Value) (bl : Option Str) (E Z2 : Led) : Value → Led → Prop
  | mk (l) (vs) (nu) (Zi) (c1 : Ext ((D4, PySem.W.listOf (fv ++ ov ++ us ++ bv).toArray 0) :: (D3, PySem.W.listOf (fv ++ ov ++ us).toArray 0) :: Z2) Zi) (c2 : OffAll E Zi) (c3 : (l, PySem.W.listOf (vs : List Value).toArray nu) ∈ Zi) (c4 : vs.length ≤ 1) (c5 : All2 StrV vs (optL bl)) : WriK D4 D3 fv ov us bv bl E Z2 (.ref l) (E ++ Zi)
inductive WriM (D6 : Addr) (av : List Value) (R : Row) (E Z5 : Led) (i : Nat) : Value → Led → Prop
  | mk (l) (vs) (nv) (Zi) (c1 : Ext ((D6, PySem.W.listOf av.toArray 0) :: Z5) Zi) (c2 : OffAll E Zi) (c3 : (l, PySem.W.listOf (vs : List Value).toArray nv) ∈ Zi) (c4 : vs.length ≤ 2 * i) (c5 : All2 StrV vs (((wPls R).take i).flatMap plNames)) : WriM D6 av R E Z5 i (.ref l) (E ++ Zi)
theorem written_use {ra : Addr} {R : Row} {Z E news : Led}
    (B : Below A₀ base outer h₀) (F : Fr h₀ L s.heap m) (X : (hd.heap_39 w.params).In h₀) (T : Top p loose mean mg mb h₀) (hk : cs.kind = .function) (hd : dp + 1 < recursionLimit) (hu : un + 8 < cLine)
    (N : News h₀ L s.heap news) (S : Spl Z news E) (hE : OffAll E Z) (hR : RowAt Z ra R)
    (hret : ∀ lf vs n Z' h' tk', Ext Z Z' → OffAll E Z' → (lf, PySem.W.listOf (vs : List Value).toArray n) ∈ Z' → All2 StrV vs (namesOf R) → Fr h₀ L h' m → News h₀ L h' (E ++ Z') → Q (.ref lf) { s with heap := h', toks := tk' }) :
    wpAny (model PG w) (ktrTop dp un gd cn cs L a ccd cl outer) (call (.ref 893) [.ref ra]) Q E' s := by
  have N1 : News h₀ L s.heap (E ++ Z) := S.eq ▸ N
  clear N S
  obtain ⟨lf, lo, lb, fv, ov, bv, nf, no, nb, rv, blv, h1, h2, h3, h4, h5, h6, h7, h8, h9, h10, h11, h12, hxl⟩ := hR
  have hfl : fv.length ≤ 2 := by rw [h5.len]; exact h10
  have hol : ov.length ≤ 2 := by rw [h6.len]; exact h11
  have hbl : bv.length ≤ 2 := by rw [h8.len]; exact h12
  have hstp : StpIf := trivial
  refine @wpAny_call _ _ _ _ _ _ _ _ ?_
  k_dflt k_extra "enterC"
  k_extra "steps"
  refine Stp.in ?_
  rename_i fd _ lfd _ D1 _ F1 N1' lD hotD
  have hotF : ∀ q ∈ E ++ Z, q.1 ≠ fd := fun q hq => Nat.ne_of_lt (lfd q hq)
  have hEf := off_appL hotF
  have hZf := off_appR hotF
  refine @cutE _ _ _ _ _ _ _ _ _ (WriJ fd D1 fv ov R.re E Z) F1 ?_ ?_
  · have hE2 : OffAll E ((fd, PySem.W.listOf #[] 0) :: (D1, PySem.W.listOf (fv ++ ov).toArray 0) :: Z) := offAll_cons (offAll_cons hE (off_appL hotD)) hEf
    cases hre : R.re with
    | none =>
      rw [hre] at h7
      cases h7
      k_extra "steps"
      rename_i l0 _ Fq Nq _ hq
      exact CutP.intro Fq Nq (E ++ ((l0, PySem.W.listOf [].toArray 0) :: (fd, _) :: (D1, _) :: Z)) (by k_extra "all") ⟨l0, [], 0, _, Ext.refl.cons, offAll_cons hE2 (off_appL hq), List.mem_cons_self, by decide, .nil⟩
    | some x =>
      rw [hre] at h7
      obtain ⟨tx, rfl⟩ := h7
      have hxl' := hxl x hre
      k_extra "steps"
      · rename_i hx0 l0 _ Fq Nq _ hq
        exact CutP.intro Fq Nq (E ++ ((l0, PySem.W.listOf [Value.str x tx].toArray 0) :: (fd, _) :: (D1, _) :: Z)) (by k_extra "all") ⟨l0, [Value.str x tx], 0, _, Ext.refl.cons, offAll_cons hE2 (off_appL hq), List.mem_cons_self, Nat.le_refl 1, by simp only [optNe, if_neg (str_nonempty hx0)]; exact .cons ⟨_, rfl⟩ .nil⟩
      · rename_i hx0 l0 _ Fq Nq _ hq
        exact CutP.intro Fq Nq (E ++ ((l0, PySem.W.listOf [].toArray 0) :: (fd, _) :: (D1, _) :: Z)) (by k_extra "all") ⟨l0, [], 0, _, Ext.refl.cons, offAll_cons hE2 (off_appL hq), List.mem_cons_self, by decide, by simp only [optNe, if_pos (str_empty hx0)]; exact .nil⟩
  · rintro v2 h3' tk3 n3 F3 N3 ⟨l2, us, nu, Z2, hZ2, hO2, hl2, hul, hus⟩
    have hZ2' : Ext Z Z2 := fun q hq => hZ2 q (List.mem_cons_of_mem _ (List.mem_cons_of_mem _ hq))
    have hd1 : (D1, PySem.W.listOf (fv ++ ov).toArray 0) ∈ Z2 := hZ2 _ (List.mem_cons_of_mem _ List.mem_cons_self)
    have hf1 : (fd, PySem.W.listOf #[] 0) ∈ Z2 := hZ2 _ List.mem_cons_self
    have hstp : StpIf := trivial
    k_extra "steps"
    refine Stp.in ?_
    rename_i D3 _ lD3 D4 _ F4 N4 lD4 hot4
    have hot3 : ∀ q ∈ E ++ Z2, q.1 ≠ D3 := fun q hq => Nat.ne_of_lt (lD3 q hq)
    have hO4 : OffAll E ((D4, PySem.W.listOf (fv ++ ov ++ us ++ bv).toArray 0) :: (D3, PySem.W.listOf (fv ++ ov ++ us).toArray 0) :: Z2) := offAll_cons (offAll_cons hO2 (off_appL hot3)) (off_appL hot4)
    refine @cutE _ _ _ _ _ _ _ _ _ (WriK D4 D3 fv ov us bv R.bl E Z2) F4 ?_ ?_
    · cases hre : R.bl with
      | none =>
        rw [hre] at h9
        cases h9
        k_extra "steps"
        rename_i l0 _ Fq Nq _ hq
        exact CutP.intro Fq Nq (E ++ ((l0, PySem.W.listOf [].toArray 0) :: (D4, _) :: (D3, _) :: Z2)) (by k_extra "all") ⟨l0, [], 0, _, Ext.refl.cons, offAll_cons hO4 (off_appL hq), List.mem_cons_self, by decide, .nil⟩
      | some x =>
        rw [hre] at h9
        obtain ⟨tx, rfl⟩ := h9
        k_extra "steps"
        rename_i l0 _ Fq Nq _ hq
        exact CutP.intro Fq Nq (E ++ ((l0, PySem.W.listOf [Value.str x tx].toArray 0) :: (D4, _) :: (D3, _) :: Z2)) (by k_extra "all") ⟨l0, [Value.str x tx], 0, _, Ext.refl.cons, offAll_cons hO4 (off_appL hq), List.mem_cons_self, Nat.le_refl 1, .cons ⟨_, rfl⟩ .nil⟩
    · rintro v5 h5' tk5 n5 F5 N5 ⟨l5, ws, nw, Z5, hZ5, hO5, hl5, hwl, hws⟩
      have hd4 : (D4, PySem.W.listOf (fv ++ ov ++ us ++ bv).toArray 0) ∈ Z5 := hZ5 _ List.mem_cons_self
      have hZ25 : Ext Z2 Z5 := fun q hq => hZ5 q (List.mem_cons_of_mem _ (List.mem_cons_of_mem _ hq))
      k_extra "steps"
      refine Stp.in ?_
      rename_i D6 _ F6 N6 lD6
      have hot6 : ∀ q ∈ E ++ Z5, q.1 ≠ D6 := fun q hq => Nat.ne_of_lt (lD6 q hq)
      have hZ5' : Ext Z Z5 := hZ2'.trans hZ25
      have hall : All2 (RPl Z) (fv ++ ov ++ us ++ bv ++ ws) (wPls R) := ((((h5.app (StrV.rpl h6)).app (StrV.rpl hus)).app h8).app (StrV.rpl hws))
      have hlen8 : (fv ++ ov ++ us ++ bv ++ ws).length ≤ 8 := by simp only [List.length_append]; lia
      generalize hav : fv ++ ov ++ us ++ bv ++ ws = av at *
      refine @listT1 _ _ _ _ _ _ _ _ _ _ _ (av) (0) _ _ (.ref fd) (Str.ofString "found") [Str.ofString "one"] (WriM D6 av R E Z5) rfl ?_ F6 (nsub (news' := E ++ ((D6, PySem.W.listOf av.toArray 0) :: Z5)) N6 (by k_extra "all")) rfl ?_ ?_ ?_
      · rintro i v n ⟨l, vs, nv, Zi, hZi, _⟩
        exact List.mem_append_right _ (hZi _ List.mem_cons_self)
      · exact ⟨fd, [], 0, _, Ext.refl, offAll_cons hO5 (off_appL hot6), List.mem_cons_of_mem _ (hZ25 _ hf1), Nat.le_refl _, .nil⟩
      · rintro i v v1 u n₁ I io h tk hv ⟨l, vs, nv, Zi, hZi, hEi, hml, hvl, hvs⟩ hI F7 N7
        dsimp only [en, envOf] at F7 N7
        have hZi' : Ext Z5 Zi := fun q hq => hZi q (List.mem_cons_of_mem _ hq)
        obtain ⟨pl, hpl, hr⟩ := hall.get hv
        have hi8 : i < 8 := by have := (List.getElem?_eq_some_iff.mp hv).1; lia
        cases pl with
        | nm x =>
          obtain ⟨tx, rfl⟩ := hr
          k_extra "steps"
          rename_i l0 _ l01 hl0 D0 _ lD0 hD0 _ Fq Nq
          exact turnT1 Fq Nq (fun y hy => by simp only [List.contains_cons, List.contains_nil, Bool.or_false, Bool.or_eq_false_iff, beq_eq_false_iff_ne, ne_eq] at hy; simp [hy.1, hy.2]) rfl (E ++ ((D0, PySem.W.listOf (vs ++ [Value.str x tx]).toArray 0) :: (l0, _) :: Zi)) (by k_extra "all") (off_join (off_appL hI) (off_cons (by dsimp only; lia) (off_cons (by dsimp only; lia) (off_appR hI))))
            ⟨D0, (vs ++ [Value.str x tx]), 0, _, hZi.cons.cons, offAll_cons (offAll_cons hEi (off_appL hl0)) (off_appL hD0), List.mem_cons_self, by simp only [List.length_append, List.length_cons, List.length_nil]; lia, by rw [take_snoc hpl, List.flatMap_append]; exact hvs.app (.cons ⟨_, rfl⟩ .nil)⟩
        | gp x y =>
          obtain ⟨ga, gt, gu, rfl, hga⟩ := hr
          k_extra "steps"
          rename_i l0 _ _ l01 hl0 D0 _ lD0 hD0 _ Fq Nq
          exact turnT1 Fq Nq (fun y hy => by simp only [List.contains_cons, List.contains_nil, Bool.or_false, Bool.or_eq_false_iff, beq_eq_false_iff_ne, ne_eq] at hy; simp [hy.1, hy.2]) rfl (E ++ ((D0, PySem.W.listOf (vs ++ [Value.str x gt, Value.str y gu]).toArray 0) :: (l0, _) :: Zi)) (by k_extra "all") (off_join (off_appL hI) (off_cons (by dsimp only; lia) (off_cons (by dsimp only; lia) (off_appR hI))))
            ⟨D0, (vs ++ [Value.str x gt, Value.str y gu]), 0, _, hZi.cons.cons, offAll_cons (offAll_cons hEi (off_appL hl0)) (off_appL hD0), List.mem_cons_self, by simp only [List.length_append, List.length_cons, List.length_nil]; lia, by rw [take_snoc hpl, List.flatMap_append]; exact hvs.app (.cons ⟨_, rfl⟩ (.cons ⟨_, rfl⟩ .nil))⟩
      · rintro v1 u n₁ h tk ⟨l, vs, nv, Zi, hZi, hEi, hml, hvl, hvs⟩ F7 N7
        dsimp only [en, envOf] at F7 N7
        have hZi' : Ext Z5 Zi := fun q hq => hZi q (List.mem_cons_of_mem _ hq)
        rw [hall.len, List.take_length, wPls_names] at hvs
        k_extra "steps"
        rename_i kF kN _ _
        exact hret l vs nv Zi _ _ (hZ5'.trans hZi') hEi hml hvs kF kN
end
end
section
theorem lines_30 : True := by
  k_with "own call ref" => ((fail_if_success fail_if_success with_reducible rename Pt 23 => hg9); (k_here; (with_reducible show wpAny _ _ (call (Value.ref 853) [_]) _ _ _); refine Stp.out ?_))
  k_with "own call ref" => ((fail_if_success fail_if_success with_reducible rename Pt 23 => hg9); (k_here; (with_reducible show wpAny _ _ (call (Value.ref 842) [_]) _ _ _); refine Stp.out ?_))
  k_with "own call ref" => ((fail_if_success fail_if_success with_reducible rename Pt 23 => hg9); (k_here; (with_reducible show wpAny _ _ (call (Value.ref 881) [_, _]) _ _ _); refine Stp.out ?_))
  k_with "own call ref" => ((fail_if_success fail_if_success with_reducible rename Pt 23 => hg9); (k_here; (with_reducible show wpAny _ _ (call (Value.ref 886) [_]) _ _ _); refine Stp.out ?_))
  k_with "own call ref" => ((fail_if_success fail_if_success with_reducible rename Pt 23 => hg9); (k_here; (with_reducible show wpAny _ _ (call (Value.ref 490) [_]) _ _ _); refine Stp.out ?_))
  k_with "own call ref" => ((fail_if_success fail_if_success with_reducible rename Pt 23 => hg9); (k_here; (with_reducible show wpAny _ _ (call (Value.ref 893) [_]) _ _ _); refine Stp.out ?_))
  k_with "own call ref" => ((fail_if_success fail_if_success with_reducible rename Pt 23 => hg9); (k_here; (with_reducible show wpAny _ _ (call (Value.ref 910) [_, _, _, _, _]) _ _ _); refine Stp.out ?_))
  k_with "close" => ((fail_if_success fail_if_success with_reducible rename Pt 23 => hg9); (try dsimp only); (show GoodW _ _ _ _ _ (.ok (.ret (.bool _))) _); refine goodW_bool (by assumption) (by assumption) (raisesW_false ?_) ?_; (focus exact allW_false_nil); (focus exact postW_of (X := true) (by kernel_rfl!) (by kernel_rfl!) rfl))
  trivial
theorem strs_of_all {vs : List Value} {ss : List Str} (h : All2 StrV vs ss) : StrsAre vs ss := by
  induction h with
  | nil => exact .nil
  | cons h _ ih => obtain ⟨t, rfl⟩ := h; exact .cons _ t ih
theorem lines_31 : True := by
  k_with "own compareOp NotEq ref ref" => ((fail_if_success fail_if_success with_reducible rename Pt 23 => hg9); (k_here; k_dflt (refine @ne_strs _ _ _ _ _ _ _ _ _ _ _ _ _ _ _ _ (by k_asm) (by k_mem) (by k_mem) (by with_reducible assumption) (by with_reducible assumption) (by k_units) ?_; k_whole)))
  k_with "own call ref" => ((fail_if_success fail_if_success with_reducible rename Pt 23 => hg9); (k_here; (with_reducible show wpAny _ _ (call (Value.ref 860) [_, _]) _ _ _); refine Stp.out ?_))
  k_with "own call ref" => ((fail_if_success fail_if_success with_reducible rename Pt 23 => hg9); (k_here; (with_reducible show wpAny _ _ (call (Value.ref 692) [_, _]) _ _ _); refine Stp.out ?_))
  k_with "own eval ListComp" => ((fail_if_success fail_if_success with_reducible rename Pt 23 => hg9); (refine Stp.out ?_))
  k_with "own exec For" => ((fail_if_success fail_if_success with_reducible rename Pt 23 => hg9); (k_here; (with_reducible show wpAny _ _ (exec (Stmt.For (Expr.Tuple _ _ _) (Expr.Tuple _ _ _) _ _ _) _) _ _ _); k_dflt (refine For_turns (by k_asm) ?_; k_whole)))
  trivial
theorem ks_snoc {ks : List AV} {k : Int} {t : Tok} {j : Nat} (hkl : ks.length = j) (hki : ∀ v ∈ ks, ∃ k t, v = .lf (.int k t)) : ∃ ks' : List AV, ks.map AV.val ++ [.int k t] = ks'.map AV.val ∧ ks'.length = j + 1 ∧ ∀ v ∈ ks', ∃ k t, v = AV.lf (.int k t) :=
  ⟨ks ++ [.lf (.int k t)], by rw [List.map_append]; rfl, by rw [List.length_append, hkl]; rfl, fun v hv => (List.mem_append.mp hv).elim (hki v) fun h => ⟨_, _, List.mem_singleton.mp h⟩⟩
theorem laid_le {R : Row} {as : List AV} (h1 : as.length ≤ 20) (h2 : ∀ v ∈ as, v.its.length ≤ 20) : (laidA R as).length ≤ 20 := by
  unfold laidA
  split
  · split
    · exact h2 _ List.mem_cons_self
    · exact h1
  · exact h1
theorem as_snoc {Z Z' : Led} {as : List AV} {j : Nat} {v : AV} (e : Ext Z Z') (hl : as.length = j) (hok : ∀ v ∈ as, AVOk Z v) (hit : ∀ v ∈ as, v.its.length ≤ 3) (hv : AVOk Z' v) (hvi : v.its.length ≤ 3) : (as ++ [v]).length = j + 1 ∧ (∀ x ∈ as ++ [v], AVOk Z' x) ∧ (∀ x ∈ as ++ [v], x.its.length ≤ 3) :=
  ⟨by rw [List.length_append, hl]; rfl, fun x hx => (List.mem_append.mp hx).elim (fun h => (hok x h).mono e) fun h => (List.mem_singleton.mp h) ▸ hv, fun x hx => (List.mem_append.mp hx).elim (hit x) fun h => (List.mem_singleton.mp h) ▸ hvi⟩
theorem snoc2 {h₀ h : Heap} {L la : Addr} {as : List AV} {k : Int} {t : Tok} {n : Nat} {p1 p2 : Addr × Obj} {r : Led} (N : News h₀ L h (p1 :: p2 :: (la, PySem.W.listOf (as.map AV.val ++ [Value.int k t]).toArray n) :: r)) :
    ∃ v9 : AV, (∀ Z, AVOk Z v9) ∧ v9.its.length ≤ 3 ∧ News h₀ L h (p1 :: p2 :: (la, PySem.W.listOf ((as ++ [v9]).map AV.val).toArray n) :: r) :=
  ⟨.lf (.int k t), fun _ => AVOk.int, Nat.le_of_ble_eq_true rfl, by rw [List.map_append]; exact N⟩
theorem ar3 {Z : Led} {x : Addr} {a b c : Int} {t u v : Tok} (h : ListAt Z x [.int a t, .int b u, .int c v]) : ∃ v9 : AV, v9.val = .ref x ∧ v9.its.length ≤ 3 ∧ AVOk Z v9 :=
  ⟨.ar x [.lf (.int a t), .lf (.int b u), .lf (.int c v)], rfl, Nat.le_of_ble_eq_true rfl, .ar (Nat.le_of_ble_eq_true rfl) h fun y hy => by
    simp only [List.mem_cons, List.not_mem_nil, or_false] at hy
    rcases hy with rfl | rfl | rfl <;> exact AVOk.int⟩
inductive LawJ (w : World) (W dW mD box : Addr) (i : Nat) : Led → Prop
  | mk (o : Obj) (ow : Obj) (om : Obj) (Zi : Led) (c1 : (∀ q ∈ Zi, q.1 ≠ dW)) (c2 : (∀ q ∈ Zi, q.1 ≠ mD)) (c3 : (∀ q ∈ Zi, q.1 ≠ box)) (c4 : BoxOk Zi o (150 * (3 - i))) (c5 : WSt w Zi W dW mD ow om true 41) : LawJ w W dW mD box i ((dW, ow) :: (mD, om) :: (box, o) :: Zi)
inductive LawA (w : World) (W dW mD box la I : Addr) (io : Obj) (Z8 : Led) (i : Nat) (j : Nat) : Led → Prop
  | mk (as : List AV) (na : Nat) (o : Obj) (ow : Obj) (om : Obj) (Zi : Led) (c1 : Ext Z8 Zi) (c2 : (∀ q ∈ Zi, q.1 ≠ la)) (c3 : (∀ q ∈ Zi, q.1 ≠ I)) (c4 : (∀ q ∈ Zi, q.1 ≠ dW)) (c5 : (∀ q ∈ Zi, q.1 ≠ mD)) (c6 : (∀ q ∈ Zi, q.1 ≠ box)) (c7 : as.length = j) (c8 : (∀ v ∈ as, AVOk Zi v)) (c9 : (∀ v ∈ as, v.its.length ≤ 3)) (c10 : BoxOk Zi o (150 * (2 - i) + 99 - j)) (c11 : WSt w Zi W dW mD ow om true 41) : LawA w W dW mD box la I io Z8 i j ((la, PySem.W.listOf ((as : List AV).map AV.val).toArray na) :: (I, io) :: (dW, ow) :: (mD, om) :: (box, o) :: Zi)
inductive LawC (dW mD box la I : Addr) (io ow om o : Obj) (as : List AV) (na : Nat) (Zj : Led) (j : Nat) (ys : List Value) : Led → Prop
  | mk (ks : List AV) (c1 : ys = ks.map AV.val) (c2 : ks.length = j) (c3 : ∀ v ∈ ks, ∃ k t, v = .lf (.int k t)) : LawC dW mD box la I io ow om o as na Zj j ys ((la, PySem.W.listOf (as.map AV.val).toArray na) :: (I, io) :: (dW, ow) :: (mD, om) :: (box, o) :: Zj)
inductive LawT (w : World) (W dW mD box I : Addr) (io o : Obj) (Z12 : Led) (j : Nat) : Led → Prop
  | mk (ow : Obj) (om : Obj) (Zi : Led) (c1 : Ext Z12 Zi) (c2 : (∀ q ∈ Zi, q.1 ≠ I)) (c3 : (∀ q ∈ Zi, q.1 ≠ dW)) (c4 : (∀ q ∈ Zi, q.1 ≠ mD)) (c5 : (∀ q ∈ Zi, q.1 ≠ box)) (c6 : WSt w Zi W dW mD ow om true 41) : LawT w W dW mD box I io o Z12 j ((dW, ow) :: (mD, om) :: (I, io) :: (box, o) :: Zi)
local macro_rules | `(tactic| k_qdec) => `(tactic| decide +kernel)
theorem law_holds : PySem.Challenge.rw_pq0493_01.Holds := by
  have hp29 : Pt 2 := trivial
  have hpt9 : Pt 23 := trivial
  w_on
  refine hd ?_
  k_go0
  all_goals try k_fold
  rename World => w
  k_extra "steps"
  refine Stp.in ?_
  k_dflt (refine' box_use ?B ?F ?X ?T ?hk ?hd ?hu ?N ?hl ?hi ?hn ?_; (case B => k_asm); (case F => k_asm); (case X => k_asm); (case T => k_asm); (case hk => first | exact rfl | assumption); (case hd => decide); (case hu => decide); (case N => k_asm); (case hl => assumption); (case hi => assumption); (case hn => lia))
  intro box o Z h1 tk1 hZb hbo F1 N1
  rw [List.append_nil] at N1
  k_extra "steps"
  refine Stp.in ?_
  rename_i nt _ on F2 N2 lo2 hs2 _ _ _ l2 hot2
  have hbn : @Ne Nat nt box := Ne.symm (Nat.ne_of_lt l2.1)
  k_dflt (refine' new_use (nt := nt) (on := on) (Z := (nt, on) :: Z) (E := [(box, o)]) ?B ?F ?X ?T ?hk ?hd ?hu (nsub N2 (by k_extra "all")) (.cons .nil) ⟨off_cons hbn hZb, trivial⟩ List.mem_cons_self hs2 lo2 ?_; (case B => k_asm); (case F => k_asm); (case X => k_asm); (case T => k_asm); (case hk => first | exact rfl | assumption); (case hd => decide); (case hu => decide))
  intro W dW mD ow om Z4 h4 tk4 hZ4 hOE4 hne hoW hoM hs4 F4 N4
  refine and2 hOE4 fun hb4 _ => ?_
  replace hb4 : ∀ q ∈ Z4, q.1 ≠ box := hb4
  simp only [List.cons_append, List.nil_append] at N4 hoW hoM
  obtain ⟨hw1, hw2⟩ := List.forall_mem_cons.mp hoW
  obtain ⟨hm1, hm2⟩ := List.forall_mem_cons.mp hoM
  replace hw1 := neN hw1
  replace hm1 := neN hm1
  have hbo4 : BoxOk Z4 o 500 := hbo.mono (fun q hq => hZ4 _ (List.mem_cons_of_mem _ hq)) (Nat.le_refl _)
  k_extra "steps"
  refine Stp.in ?_
  rename_i c9 _ _ _ hc1 hc2 hc3 _ _ _ _ _ R5 F5 N5 _
  have hc0 : 0 ≤ c9 := by lia
  refine rangeZ [Str.ofString "row", Str.ofString "made", Str.ofString "args", Str.ofString "at", Str.ofString "more", Str.ofString "some", Str.ofString "strict"] (1 + c9).toNat (LawJ w W dW mD box) rfl R5 (by lia) (by lia) rfl F5 (nsub (news' := (dW, ow) :: (mD, om) :: (box, o) :: Z4) N5 (by k_extra "all")) ?_ ?_ ?_
  · exact ⟨o, ow, om, Z4, hw2, hm2, hb4, hbo4.mono Ext.refl (by lia), hs4⟩
  · rintro i t u n₁ I io h6 tk6 hi ⟨o, ow, om, Zi, y1, y2, y3, hbx, hst⟩ hI F6 N6
    have hi3 : i ≤ 2 := by lia
    dsimp only [envOf] at F6 N6
    refine off3 hI fun hI1 hI2 hI3 hI4 => ?_
    k_extra "steps"
    refine Stp.in ?_
    rename_i sg _ F7 N7 ls hots
    refine and5 ls fun s1 s2 s3 s4 _ => ?_
    have hE7 : OffAll [(I, io), (dW, ow), (mD, om)] Zi := ⟨hI4, y1, y2, trivial⟩
    have hoB : ∀ q ∈ [(I, io), (dW, ow), (mD, om)] ++ Zi, q.1 ≠ box := off_join (off_cons (Ne.symm hI3) (off_cons (Ne.symm hw1) (off_cons (Ne.symm hm1) (fun _ h => nomatch h)))) y3
    have hoS : ∀ q ∈ [(I, io), (dW, ow), (mD, om)] ++ Zi, q.1 ≠ sg := off_join (off_cons (Nat.ne_of_lt s1) (off_cons (Nat.ne_of_lt s2) (off_cons (Nat.ne_of_lt s3) (fun _ h => nomatch h)))) hots
    k_dflt (refine' row_use (c := 150 * (2 - i) + 100) (E := [(I, io), (dW, ow), (mD, om)]) (Z := Zi) (R1 := (sg, PySem.W.listOf #[] 0) :: ([(I, io), (dW, ow), (mD, om)] ++ Zi)) (R := [(I, io), (dW, ow), (mD, om)] ++ Zi) (single := sg) (o2 := PySem.W.listOf #[] 0) (o := o) ?B ?F ?X ?T ?hk ?hd ?hu (nsub N7 (by (simp only [List.cons_append, List.nil_append]); k_extra "all")) .head .head .app ?hb ?hs (Nat.ne_of_lt s4) hoB hoS hE7 ?_; (case B => k_asm); (case F => k_asm); (case X => k_asm); (case T => k_asm); (case hk => first | exact rfl | assumption); (case hd => decide); (case hu => decide); (case hb => exact hbx.mono Ext.refl (by lia)); (case hs => exact ⟨#[], 0, rfl, by (simp only [List.size_toArray, List.length_nil]; lia)⟩))
    intro ra R Z5 o5 o25 h8 tk8 hZ5 hO5 b5 hbx5 hR5 F8 N8
    refine and4 hO5 fun i5 w5 m5 _ => ?_
    replace i5 : ∀ q ∈ Z5, q.1 ≠ I := i5
    replace w5 : ∀ q ∈ Z5, q.1 ≠ dW := w5
    replace m5 : ∀ q ∈ Z5, q.1 ≠ mD := m5
    simp only [List.cons_append, List.nil_append] at N8
    replace N8 := nsub (news' := (I, io) :: (dW, ow) :: (mD, om) :: (box, o5) :: Z5) N8 (by k_extra "all")
    have hst5 := hst.mono hZ5 (Nat.le_refl _)
    k_extra "steps"
    refine Stp.in ?_
    k_dflt (refine' made_use (R := R) (E := [(I, io), (dW, ow), (mD, om), (box, o5)]) (Z := Z5) ?B ?F ?X ?T ?hk ?hd ?hu ?N (.cons (.cons (.cons (.cons .nil)))) ⟨i5, w5, m5, b5, trivial⟩ hR5 ?_; (case B => k_asm); (case F => k_asm); (case X => k_asm); (case T => k_asm); (case N => k_asm); (case hk => first | exact rfl | assumption); (case hd => decide); (case hu => decide))
    intro pa Z6 h9 tk9 hZ6 hO6 hP6 F9 N9
    refine and5 hO6 fun i6 w6 m6 b6 _ => ?_
    replace i6 : ∀ q ∈ Z6, q.1 ≠ I := i6
    replace w6 : ∀ q ∈ Z6, q.1 ≠ dW := w6
    replace m6 : ∀ q ∈ Z6, q.1 ≠ mD := m6
    replace b6 : ∀ q ∈ Z6, q.1 ≠ box := b6
    simp only [List.cons_append, List.nil_append] at N9
    have hst6 := hst5.mono hZ6 (Nat.le_refl _)
    have hR6 := hR5.mono hZ6
    k_extra "steps"
    refine Stp.in ?_
    k_dflt (refine' names_use (R := R) (E := [(I, io), (dW, ow), (mD, om), (box, o5)]) (Z := Z6) ?B ?F ?X ?T ?hk ?hd ?hu ?N (.cons (.cons (.cons (.cons .nil)))) ⟨i6, w6, m6, b6, trivial⟩ hP6 ?_; (case B => k_asm); (case F => k_asm); (case X => k_asm); (case T => k_asm); (case N => k_asm); (case hk => first | exact rfl | assumption); (case hd => decide); (case hu => decide))
    intro l7 vs7 n7 Z7 h10 tk10 hZ7 hO7 hl7 hall7 F10 N10
    refine and5 hO7 fun i7 w7 m7 b7 _ => ?_
    replace i7 : ∀ q ∈ Z7, q.1 ≠ I := i7
    replace w7 : ∀ q ∈ Z7, q.1 ≠ dW := w7
    replace m7 : ∀ q ∈ Z7, q.1 ≠ mD := m7
    replace b7 : ∀ q ∈ Z7, q.1 ≠ box := b7
    simp only [List.cons_append, List.nil_append] at N10
    have hst7 := hst6.mono hZ7 (Nat.le_refl _)
    have hR7 := hR6.mono hZ7
    k_extra "steps"
    refine Stp.in ?_
    k_dflt (refine' written_use (R := R) (E := [(I, io), (dW, ow), (mD, om), (box, o5)]) (Z := Z7) ?B ?F ?X ?T ?hk ?hd ?hu ?N (.cons (.cons (.cons (.cons .nil)))) ⟨i7, w7, m7, b7, trivial⟩ hR7 ?_; (case B => k_asm); (case F => k_asm); (case X => k_asm); (case T => k_asm); (case N => k_asm); (case hk => first | exact rfl | assumption); (case hd => decide); (case hu => decide))
    intro l8 vs8 n8 Z8 h11 tk11 hZ8 hO8 hl8 hall8 F11 N11
    refine and5 hO8 fun i8 w8 m8 b8 _ => ?_
    replace i8 : ∀ q ∈ Z8, q.1 ≠ I := i8
    replace w8 : ∀ q ∈ Z8, q.1 ≠ dW := w8
    replace m8 : ∀ q ∈ Z8, q.1 ≠ mD := m8
    replace b8 : ∀ q ∈ Z8, q.1 ≠ box := b8
    simp only [List.cons_append, List.nil_append] at N11
    have hst8 := hst7.mono hZ8 (Nat.le_refl _)
    have hR8 := hR7.mono hZ8
    have hl7' := hZ8 _ hl7
    have hS7 := strs_of_all hall7
    have hS8 := strs_of_all hall8
    have hP8 := MadeAt.mono (hZ7.trans hZ8) hP6
    have hbx8 := hbx5.mono (hZ6.trans (hZ7.trans hZ8)) (Nat.le_refl _)
    k_extra "steps"
    refine Stp.in ?_
    rename_i la _ la1 la2 _ F12 N12
    refine and5 la1 fun a1 a2 a3 a4 _ => ?_
    k_dflt (refine' take_use (c := 150 * (2 - i) + 99) (R := (la, PySem.W.listOf #[] 0) :: (I, io) :: (dW, ow) :: (mD, om) :: Z8) ?B ?F ?X ?T ?hk ?hd ?hu N12 (.tail (.tail (.tail (.tail .head)))) (hbx8.mono Ext.refl (by lia)) (by k_extra "p2") ?ho (by decide) (by decide) ?_; (case B => k_asm); (case F => k_asm); (case X => k_asm); (case T => k_asm); (case hk => first | exact rfl | assumption); (case hd => decide); (case hu => decide); (case ho => exact off_cons (Ne.symm (Nat.ne_of_lt a4)) (off_cons (Ne.symm hI3) (off_cons (Ne.symm hw1) (off_cons (Ne.symm hm1) b8)))))
    intro r9 t9 o9 h13 tk13 hr1 hr2 hbx9 F13 N13
    k_extra "steps"
    refine Stp.in ?_
    rename_i _ _ _ _ _ R14 F14 N14 _
    refine @rangeZ _ _ _ _ _ _ _ _ _ _ _ _ _ _ _ _ _ [] r9.toNat (LawA w W dW mD box la I io Z8 i) rfl R14 (by lia) (by lia) rfl F14 (nsub (news' := (la, PySem.W.listOf #[] 0) :: (I, io) :: (dW, ow) :: (mD, om) :: (box, o9) :: Z8) N14 (by k_extra "all")) ?_ ?_ ?_
    · exact ⟨[], 0, o9, ow, om, Z8, Ext.refl, la2, i8, w8, m8, b8, rfl, fun _ h => (nomatch h), fun _ h => (nomatch h), hbx9, hst8⟩
    · 
      rintro j tj u2 n₂ J jo h15 tk15 hj ⟨as, na, o, ow, om, Zj, hZj, z1, z2, z3, z4, z5, hasl, hok, hitl, hbxj, hstj⟩ hJ F15 N15
      dsimp only [envOf] at F15 N15
      refine off5 hJ fun hJ1 hJ2 hJ3 hJ4 hJ5 hJ6 => ?_
      have hstJ := hstj
      have hj8 : j < 8 := by lia
      k_extra "steps"
      refine Stp.in ?_
      k_dflt (refine' take_use (c := 150 * (2 - i) + 99 - (j + 1)) (o := o) (Z := Zj) (R := (J, jo) :: (la, PySem.W.listOf (as.map AV.val).toArray na) :: (I, io) :: (dW, ow) :: (mD, om) :: Zj) ?B ?F ?X ?T ?hk ?hd ?hu (nsub ?N ?sub) .head (hbxj.mono Ext.refl (step_le (Nat.lt_of_lt_of_le hj8 (Nat.le_trans (by decide) (Nat.le_add_left 99 _))))) Ext.refl.cons.cons.cons.cons.cons ?ho (by decide) (by decide) ?_; (case B => k_asm); (case F => k_asm); (case X => k_asm); (case T => k_asm); (case N => k_asm); (case sub => k_extra "all"); (case hk => first | exact rfl | assumption); (case hd => decide); (case hu => decide); (case ho => exact off_cons (Ne.symm hJ5) (off_cons (Ne.symm (Nat.ne_of_lt a4)) (off_cons (Ne.symm hI3) (off_cons (Ne.symm hw1) (off_cons (Ne.symm hm1) z5))))))
      intro r16 t16 o16 h16 tk16 hr16 hr17 hbx16 F16 N16
      have hml : (as.map AV.val).length = as.length := List.length_map ..
      have has7 : as.length ≤ 7 := by lia
      k_extra "steps"
      · refine Stp.in ?_
        rename_i _ ln _ _ _ ll hotl
        refine and7 ll fun d1 d2 d3 d4 d5 d6 _ => ?_
        k_dflt (refine' lof_use (n := 41) ?B ?F ?X ?T ?hk ?hd ?hu hstj ?N ?P ?P2 ?S hne ?ho ?ho2 ?hE ?hli ?hvl ?_; (case B => k_asm); (case F => k_asm); (case X => k_asm); (case T => k_asm); (case N => k_asm); (case P => k_extra "pick"); (case P2 => k_extra "pick"); (case S => k_extra "spl"); (case ho => exact off_cons (Ne.symm (Nat.ne_of_lt d5)) (off_cons hw1 (off_cons (Ne.symm hJ3) (off_cons (Ne.symm (Nat.ne_of_lt a2)) (off_cons (Ne.symm hI1) z3))))); (case ho2 => exact off_cons (Ne.symm (Nat.ne_of_lt d6)) (off_cons hm1 (off_cons (Ne.symm hJ4) (off_cons (Ne.symm (Nat.ne_of_lt a3)) (off_cons (Ne.symm hI2) z4))))); (case hE => exact ⟨hotl, z5, hJ6, z1, z2, trivial⟩); (case hli => exact List.mem_cons_self); (case hvl => exact Nat.le_of_ble_eq_true rfl); (case hk => first | exact rfl | assumption); (case hd => decide); (case hu => decide))
        intro x17 Z17 ow17 om17 h17 tk17 hZ17 hO17 w17 m17 hst17 hL17 F17 N17
        refine and6 hO17 fun _ b17 j17 la17 i17 _ => ?_
        replace b17 : ∀ q ∈ Z17, q.1 ≠ box := b17
        replace j17 : ∀ q ∈ Z17, q.1 ≠ J := j17
        replace la17 : ∀ q ∈ Z17, q.1 ≠ la := la17
        replace i17 : ∀ q ∈ Z17, q.1 ≠ I := i17
        simp only [List.cons_append, List.nil_append] at N17
        obtain ⟨v9, hv0, hv2, hv1⟩ := ar3 hL17
        k_extra "steps"
        rename_i Fq Nq
        have e9 : as.map AV.val ++ [Value.ref x17] = (as ++ [v9]).map AV.val := by rw [List.map_append, List.map_cons, List.map_nil, hv0]
        simp only [List.push_toArray, e9] at Nq
        obtain ⟨w9, w10, w11⟩ := as_snoc (v := v9) hZ17 hasl hok hitl hv1 hv2
        exact turnZ Fq Nq (fun y h1 h2 => by simp [h1]) ((la, PySem.W.listOf ((as ++ [v9]).map AV.val).toArray (na + 1)) :: (I, io) :: (dW, ow17) :: (mD, om17) :: (box, o16) :: Z17) (by k_extra "all") (off_cons hJ1 (off_cons hJ2 (off_cons hJ3 (off_cons hJ4 (off_cons hJ5 j17)))))
          ⟨as ++ [v9], na + 1, o16, ow17, om17, Z17, hZj.trans hZ17, la17, i17, w17, m17, b17, w9, w10, w11, hbx16.mono hZ17 (Nat.le_refl _), hst17⟩
      · rename_i Fq Nq
        simp only [List.push_toArray] at Nq
        obtain ⟨v9, hv1, hv2, N9⟩ := snoc2 Nq
        obtain ⟨w9, w10, w11⟩ := as_snoc (v := v9) Ext.refl hasl hok hitl (hv1 _) hv2
        exact turnZ Fq N9 (fun y h1 h2 => by simp [h1]) ((la, PySem.W.listOf ((as ++ [v9]).map AV.val).toArray (na + 1)) :: (I, io) :: (dW, ow) :: (mD, om) :: (box, o16) :: Zj) (by k_extra "all") (off_cons hJ1 (off_cons hJ2 (off_cons hJ3 (off_cons hJ4 (off_cons hJ5 hJ6)))))
          ⟨as ++ [v9], na + 1, o16, ow, om, Zj, hZj, z1, z2, z3, z4, z5, w9, w10, w11, hbx16, hstj⟩
      
    · rintro u2 n₂ h15 tk15 ⟨as, na, o, ow, om, Zj, hZj, z1, z2, z3, z4, z5, hasl, hok, hitl, hbxj, hstj⟩ F15 N15
      dsimp only [envOf] at F15 N15
      have hR9 := hR8.mono hZj
      obtain ⟨lf, lo, lb, fv, ov, bv, nf, no, nb, rv, blv, q1, q2, q3, q4, q5, q6, q7, q8, q9, q10, q11, q12, hxl⟩ := id hR9
      have hfl : fv.length = R.fr.length := q5.len
      have hbl : bv.length = R.ba.length := q8.len
      have hml : (as.map AV.val).length = as.length := List.length_map ..
      have hstK := hstj
      k_extra "steps"
      refine Stp.in ?_
      k_dflt (refine LCg.ListComp_U (F₀ := by k_asm) (by with_unfolding_all rfl) (by decide) (by rfl) (by decide) (by rfl) ?_)
      k_extra "steps"
      refine Stp.in ?_
      rename_i _ _ _ _ _ R16 F16 N16 _
      have hfb : fv.length + bv.length ≤ 4 := by lia
      refine LCg.CompSrc.range (n := ((fv.length : Int) + (bv.length : Int) - ((as.map AV.val).length : Int)).toNat) rfl F16 N16 R16 (small_one (by decide) (by decide) (by lia) (by lia)) (by rw [rangeSize_one]; split <;> lia) (by rw [sizeLine_eq]; lia) ?_
      intro g17
      refine compZ (LawC dW mD box la I io ow om o as na Zj) (fun _ _ _ _ => trivial) ?_ ?_ ⟨[], rfl, rfl, fun _ h => (nomatch h)⟩
      · rintro j v ys nw I2 oI2 C oC D2 m₂ h17 tk17 E2 hj ⟨tj, rfl⟩ ⟨ks, rfl, hkl, hki⟩ hC hx F17 N17 p1 p2 p3 hne17
        k_extra "steps"
        obtain ⟨ks', e9, e8, e7⟩ := ks_snoc hkl hki
        exact CZ.intro F17 N17 _ (by k_extra "all") p1 p2 p3 ⟨ks', e9, e8, e7⟩
      · rintro ys nw ⟨ks, rfl, hkl, hki⟩
        have hks4 : ks.length ≤ 4 := by lia
        have hksm : (ks.map AV.val).length = ks.length := List.length_map ..
        have has7 : as.length ≤ 7 := by lia
        refine finE ?_
        intro D' h' tk' F' N' o1
        k_extra "steps"
        refine Stp.in ?_
        rename_i D9 _ l9 hot9 g1 _ M1 g2 _ M2 _ _ g3 _ M3 _ _ g4 F4 M4 _ _ _
        try dsimp only at M2 M3 M4 F4 ⊢
        refine and7 l9 fun _ b1 b2 b3 b4 b5 _ => ?_
        have t1 := fun q hq => Heap.lt_size (M1 q hq).1
        have t2 := fun q hq => Heap.lt_size (M2 q hq).1
        have t3 := fun q hq => Heap.lt_size (M3 q hq).1
        let T1 : Addr := g1.objs.size
        let T2 : Addr := g2.objs.size
        let T3 : Addr := g3.objs.size
        simp only [List.forall_mem_cons] at t1 t2 t3
        have e13 := t1.2.2.2.1
        have e14 := t1.2.2.2.2.1
        have e15 := t1.2.2.2.2.2.1
        have e16 := t1.2.2.2.2.2.2.1
        have e23 := t2.2.2.2.2.1
        have e24 := t2.2.2.2.2.2.1
        have e25 := t2.2.2.2.2.2.2.1
        have e26 := t2.2.2.2.2.2.2.2.1
        have e33 := t3.2.2.2.2.2.1
        have e34 := t3.2.2.2.2.2.2.1
        have e35 := t3.2.2.2.2.2.2.2.1
        have e36 := t3.2.2.2.2.2.2.2.2.1
        let Z9 : Led := (T3, tupOf #[.ref D9, .bool false]) :: (T2, tupOf #[.ref D9, .bool true]) :: (T1, tupOf #[.ref la, .bool false]) :: (D9, PySem.W.listOf (as.map AV.val ++ ks.map AV.val).toArray 0) :: (la, PySem.W.listOf (as.map AV.val).toArray na) :: Zj
        have zI : ∀ q ∈ Z9, q.1 ≠ I := off_cons (Ne.symm (Nat.ne_of_lt e33)) (off_cons (Ne.symm (Nat.ne_of_lt e23)) (off_cons (Ne.symm (Nat.ne_of_lt e13)) (off_cons (Ne.symm (Nat.ne_of_lt b2)) (off_cons (Ne.symm (Nat.ne_of_lt a1)) z2))))
        have zW : ∀ q ∈ Z9, q.1 ≠ dW := off_cons (Ne.symm (Nat.ne_of_lt e34)) (off_cons (Ne.symm (Nat.ne_of_lt e24)) (off_cons (Ne.symm (Nat.ne_of_lt e14)) (off_cons (Ne.symm (Nat.ne_of_lt b3)) (off_cons (Ne.symm (Nat.ne_of_lt a2)) z3))))
        have zM : ∀ q ∈ Z9, q.1 ≠ mD := off_cons (Ne.symm (Nat.ne_of_lt e35)) (off_cons (Ne.symm (Nat.ne_of_lt e25)) (off_cons (Ne.symm (Nat.ne_of_lt e15)) (off_cons (Ne.symm (Nat.ne_of_lt b4)) (off_cons (Ne.symm (Nat.ne_of_lt a3)) z4))))
        have zB : ∀ q ∈ Z9, q.1 ≠ box := off_cons (Ne.symm (Nat.ne_of_lt e36)) (off_cons (Ne.symm (Nat.ne_of_lt e26)) (off_cons (Ne.symm (Nat.ne_of_lt e16)) (off_cons (Ne.symm (Nat.ne_of_lt b5)) (off_cons (Ne.symm (Nat.ne_of_lt a4)) z5))))
        have hZ9 : Ext Zj Z9 := Ext.refl.cons.cons.cons.cons.cons
        have mT1 : (T1, tupOf #[.ref la, .bool false]) ∈ Z9 := .tail _ (.tail _ (.head _))
        have mT2 : (T2, tupOf #[.ref D9, .bool true]) ∈ Z9 := .tail _ (.head _)
        have mT3 : (T3, tupOf #[.ref D9, .bool false]) ∈ Z9 := .head _
        have mla : (la, PySem.W.listOf (as.map AV.val).toArray na) ∈ Z9 := .tail _ (.tail _ (.tail _ (.tail _ (.head _))))
        have mD9 : (D9, PySem.W.listOf (as.map AV.val ++ ks.map AV.val).toArray 0) ∈ Z9 := .tail _ (.tail _ (.tail _ (.head _)))
        have M5 : News _ _ g4 ((dW, ow) :: (mD, om) :: (I, io) :: (box, o) :: Z9) := nsub M4 (by k_extra "all")
        clear_value Z9
        rw [← List.map_append] at mD9
        have hst9 : WSt w Z9 W dW mD ow om true 41 := WSt.mono hstj hZ9 (Nat.le_refl 41)
        have hakl : ((as ++ ks).map AV.val).length ≤ 1000 := by rw [List.length_map, List.length_append]; lia
        have q12 : ∀ q ∈ [(I, io), (box, o)] ++ Z9, q.1 ≠ dW := off_join (off_cons (Ne.symm hI1) (off_cons hw1 (fun _ h => nomatch h))) zW
        have q13 : ∀ q ∈ [(I, io), (box, o)] ++ Z9, q.1 ≠ mD := off_join (off_cons (Ne.symm hI2) (off_cons hm1 (fun _ h => nomatch h))) zM
        have q14 : OffAll [(I, io), (box, o)] Z9 := ⟨zI, zB, trivial⟩
        have q15 : (D9, PySem.W.listOf ((as ++ ks).map AV.val).toArray 0) ∈ [(I, io), (box, o)] ++ Z9 := List.mem_append_right _ mD9
        k_dflt (refine' lof_use (Z := Z9) (E := [(I, io), (box, o)]) (R1 := (mD, om) :: ([(I, io), (box, o)] ++ Z9)) (R := [(I, io), (box, o)] ++ Z9) ?B F4 ?X ?T ?hk ?hd ?hu hst9 M5 .head .head .app hne q12 q13 q14 q15 hakl ?_; (case B => k_asm); (case X => k_asm); (case T => k_asm); (case hk => first | exact rfl | assumption); (case hd => decide); (case hu => decide))
        intro x5 Z10 ow10 om10 h20 tk20 hZ10 hO10 zW10 zM10 hst10 hL10 F20 N20
        refine and3 hO10 fun zI10 zB10 _ => ?_
        replace zI10 : ∀ q ∈ Z10, q.1 ≠ I := zI10
        replace zB10 : ∀ q ∈ Z10, q.1 ≠ box := zB10
        simp only [List.cons_append, List.nil_append] at N20
        k_extra "steps"
        refine Stp.in ?_
        rename_i l11 g5 _ N21 l21 hot21 g6 _ N22 _ _ g7 F23 N23 _ _ _
        try dsimp only at N22 N23 F23 ⊢
        refine and5 l21 fun c1 c2 c3 c4 _ => ?_
        have t4 := fun q hq => Heap.lt_size (N21 q hq).1
        have t0 := fun q hq => Heap.lt_size (N22 q hq).1
        let T4 : Addr := g5.objs.size
        let T0 : Addr := g6.objs.size
        simp only [List.forall_mem_cons] at t4 t0
        have u5 := t4.2.1
        have u6 := t4.2.2.1
        have u7 := t4.2.2.2.1
        have u8 := t4.2.2.2.2.1
        have v5 := t0.2.2.1
        have v6 := t0.2.2.2.1
        have v7 := t0.2.2.2.2.1
        have v8 := t0.2.2.2.2.2.1
        let Z12 : Led := (T0, tupOf #[.ref T1, .ref T2, .ref T3, .ref T4]) :: (T4, tupOf #[.ref l11, .bool false]) :: (l11, PySem.W.listOf #[.ref x5] 0) :: Z10
        have wI : ∀ q ∈ Z12, q.1 ≠ I := off_cons (Ne.symm (Nat.ne_of_lt v7)) (off_cons (Ne.symm (Nat.ne_of_lt u7)) (off_cons (Ne.symm (Nat.ne_of_lt c3)) zI10))
        have wW : ∀ q ∈ Z12, q.1 ≠ dW := off_cons (Ne.symm (Nat.ne_of_lt v5)) (off_cons (Ne.symm (Nat.ne_of_lt u5)) (off_cons (Ne.symm (Nat.ne_of_lt c1)) zW10))
        have wM : ∀ q ∈ Z12, q.1 ≠ mD := off_cons (Ne.symm (Nat.ne_of_lt v6)) (off_cons (Ne.symm (Nat.ne_of_lt u6)) (off_cons (Ne.symm (Nat.ne_of_lt c2)) zM10))
        have wB : ∀ q ∈ Z12, q.1 ≠ box := off_cons (Ne.symm (Nat.ne_of_lt v8)) (off_cons (Ne.symm (Nat.ne_of_lt u8)) (off_cons (Ne.symm (Nat.ne_of_lt c4)) zB10))
        have hZ12 : Ext Z10 Z12 := Ext.refl.cons.cons.cons
        have mT0 : (T0, tupOf #[.ref T1, .ref T2, .ref T3, .ref T4]) ∈ Z12 := .head _
        have mT4 : (T4, tupOf #[.ref l11, .bool false]) ∈ Z12 := .tail _ (.head _)
        have ml11 : (l11, PySem.W.listOf ([AV.ar x5 (as ++ ks)].map AV.val).toArray 0) ∈ Z12 := .tail _ (.tail _ (.head _))
        have N24 : News _ _ g7 ((dW, ow10) :: (mD, om10) :: (I, io) :: (box, o) :: Z12) := nsub N23 (Ext.consL (.tail _ (.tail _ (.tail _ (.head _)))) (Ext.consL (.tail _ (.tail _ (.tail _ (.tail _ (.head _))))) (Ext.consL (.tail _ (.tail _ (.tail _ (.tail _ (.tail _ (.head _)))))) (Ext.consL (.tail _ (.tail _ (.tail _ (.tail _ (.tail _ (.tail _ (.head _))))))) (Ext.consL (.head _) (Ext.consL (.tail _ (.head _)) (Ext.consL (.tail _ (.tail _ (.head _))) Ext.refl.cons.cons.cons.cons.cons.cons.cons)))))))
        clear_value Z12
        have hZZ9 : Ext Z9 Z12 := hZ10.trans hZ12
        have hok12 := AVOk.all_mono (hZ9.trans hZZ9) hok
        have hok13 : ∀ v ∈ as ++ ks, AVOk Z12 v := fun v hv => (List.mem_append.mp hv).elim (hok12 v) fun h => by
          obtain ⟨k, t, rfl⟩ := hki v h
          exact .int
        have hit3 : ∀ v ∈ as ++ ks, v.its.length ≤ 20 := fun v hv => (List.mem_append.mp hv).elim (fun h => Nat.le_trans (hitl v h) (by decide)) fun h => by
          obtain ⟨k, t, rfl⟩ := hki v h
          exact Nat.le_of_ble_eq_true rfl
        have hakn : (as ++ ks).length ≤ 20 := by rw [List.length_append]; lia
        have hq : ∀ (j : Nat) v, ([.ref T1, .ref T2, .ref T3, .ref T4] : List Value)[j]? = some v → ∃ Tq lq b as2 nq, v = .ref Tq ∧ (Tq, tupOf #[.ref lq, .bool b]) ∈ Z12 ∧ (lq, PySem.W.listOf ((as2 : List AV).map AV.val).toArray nq) ∈ Z12 ∧ as2.length ≤ 20 ∧ (∀ v ∈ as2, v.its.length ≤ 20) ∧ (∀ v ∈ as2, AVOk Z12 v) := by
          intro j v h
          rcases j with _ | _ | _ | _ | j
          · cases h; exact ⟨T1, la, false, as, na, rfl, hZZ9 _ mT1, hZZ9 _ mla, by lia, fun v hv => Nat.le_trans (hitl v hv) (by decide), hok12⟩
          · cases h; exact ⟨T2, D9, true, as ++ ks, 0, rfl, hZZ9 _ mT2, hZZ9 _ mD9, hakn, hit3, hok13⟩
          · cases h; exact ⟨T3, D9, false, as ++ ks, 0, rfl, hZZ9 _ mT3, hZZ9 _ mD9, hakn, hit3, hok13⟩
          · cases h; exact ⟨T4, l11, false, [.ar x5 (as ++ ks)], 0, rfl, mT4, ml11, Nat.le_of_ble_eq_true rfl, fun v hv => (List.mem_singleton.mp hv) ▸ hakn, fun v hv => (List.mem_singleton.mp hv) ▸ .ar (Nat.le_trans hakn (by decide)) (hL10.mono hZ12) hok13⟩
          · cases h
        have hst12 := WSt.mono hst10 hZ12 (Nat.le_refl 41)
        have hR12 := hR9.mono (hZ9.trans hZZ9)
        have hP12 := MadeAt.mono (hZj.trans (hZ9.trans hZZ9)) hP8
        have hbx12 := hbxj.mono (hZ9.trans hZZ9) (Nat.le_refl _)
        refine @tupT _ _ _ _ _ _ _ _ _ _ _ ([.ref T1, .ref T2, .ref T3, .ref T4]) _ _ [Str.ofString "some", Str.ofString "strict"] (LawT w W dW mD box I io o Z12) rfl ?_ F23 N24 ?_ ?_ ?_
        · rintro j nw ⟨ow, om, Zi, hZi, _⟩
          have := hZi _ mT0
          k_mem
        · exact ⟨ow10, om10, Z12, Ext.refl, wI, wW, wM, wB, hst12⟩
        · rintro j v u3 n₃ J jo h30 tk30 hv ⟨ow, om, Zi, hZi, x1, x2, x3, x4, hst30⟩ hJ F30 N30
          dsimp only [envOf] at F30 N30
          refine off4 hJ fun hJ1 hJ2 hJ3 hJ4 hJ5 => ?_
          obtain ⟨Tq, lq, b, as2, nq, rfl, m1, m2, l1, l2, l3⟩ := hq _ _ hv
          have m1' := hZi _ m1
          have m2' := hZi _ m2
          have hb1 : ∀ q ∈ [(J, jo), (I, io), (box, o)] ++ Zi, q.1 ≠ dW := off_join (off_cons (Ne.symm hJ1) (off_cons (Ne.symm hI1) (off_cons hw1 (fun _ h => nomatch h)))) x2
          have hb2 : ∀ q ∈ [(J, jo), (I, io), (box, o)] ++ Zi, q.1 ≠ mD := off_join (off_cons (Ne.symm hJ2) (off_cons (Ne.symm hI2) (off_cons hm1 (fun _ h => nomatch h)))) x3
          have hb3 : OffAll [(J, jo), (I, io), (box, o)] Zi := ⟨hJ5, x1, x4, trivial⟩
          k_extra "steps"
          refine Stp.in ?_
          k_dflt (refine' brt_use (strict := b) (n := 41) (R := R) (as := as2) (tb := tk30) (Z := Zi) (E := [(J, jo), (I, io), (box, o)]) (R1 := (mD, om) :: ([(J, jo), (I, io), (box, o)] ++ Zi)) (Rr := [(J, jo), (I, io), (box, o)] ++ Zi) ?XB ?TB ?B ?F ?X ?T ?hk ?hd ?hu hst30 (nsub ?N ?sub) .head .head .app hne hb1 hb2 hb3 (hR12.mono hZi) (MadeAt.mono hZi hP12) m2' l1 (laid_le l1 l2) (AVOk.all_mono hZi l3) ?_; (case XB => assumption); (case TB => assumption); (case B => k_asm); (case F => k_asm); (case X => k_asm); (case T => k_asm); (case N => k_asm); (case sub => ((simp only [List.cons_append, List.nil_append]); k_extra "all")); (case hk => first | exact rfl | assumption); (case hd => decide); (case hu => decide))
          intro Z31 ow31 om31 h31 tk31 hZ31 hO31 w31 m31 hst31 F31 N31
          refine and4 hO31 fun j31 i31 b31 _ => ?_
          replace j31 : ∀ q ∈ Z31, q.1 ≠ J := j31
          replace i31 : ∀ q ∈ Z31, q.1 ≠ I := i31
          replace b31 : ∀ q ∈ Z31, q.1 ≠ box := b31
          simp only [List.cons_append, List.nil_append] at N31
          k_extra "steps"
          exact turnT F31 N31 (fun y hy => by simp only [List.contains_cons, List.contains_nil, Bool.or_false, Bool.or_eq_false_iff, beq_eq_false_iff_ne, ne_eq] at hy; simp [hy]) ((dW, ow31) :: (mD, om31) :: (I, io) :: (box, o) :: Z31) (by k_extra "all") (off_cons hJ1 (off_cons hJ2 (off_cons hJ3 (off_cons hJ4 j31))))
            ⟨ow31, om31, Z31, hZi.trans hZ31, i31, w31, m31, b31, hst31⟩
        · rintro u3 n₃ h30 tk30 ⟨ow, om, Zi, hZi, x1, x2, x3, x4, hst30⟩ F30 N30
          dsimp only [envOf] at F30 N30
          k_extra "steps"
          exact turnZ F30 N30 (fun y h1 h2 => by simp only [List.contains_cons, List.contains_nil, Bool.or_false, Bool.or_eq_false_iff, beq_eq_false_iff_ne, ne_eq] at h2; simp [h1, h2]) ((dW, ow) :: (mD, om) :: (box, o) :: Zi) (by k_extra "all") (off_cons hI1 (off_cons hI2 (off_cons hI3 x1)))
            ⟨o, ow, om, Zi, x2, x3, x4, hbx12.mono hZi (by lia), hst30⟩
  · rintro u n₁ h6 tk6 ⟨o, ow, om, Zi, y1, y2, y3, hbx, hst⟩ F6 N6
    dsimp only [envOf] at F6 N6
    k_extra "steps"
end
end Mine
theorem PySem.Challenge.cw_pq0493_01_holds : PySem.Challenge.rw_pq0493_01.Holds := by
  exact Mine.law_holds
